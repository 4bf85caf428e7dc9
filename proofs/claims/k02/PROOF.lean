import PyProof.Rows.All
import Wide.All
import OpenK.AllK
import Wide.FinOn
import HandS.Head2
import HandS.HeadHook2
import HandS.HeadNt
import HandS.HeadEnd
import HandS.ForMost
import HandS.Exc
import HandS.Deep
import HandS.TupAny
import HandS.Style
import HandS.Wide
import HandS.Lambda
import HandS.Iter
import HandS.ExcOwn
import KE.KSortKeySt
import KE.KSortedM
import HandS.Property
import HandS.MakeKwOnly
import HandS.Star
import HandS.IsInst
import HandS.ExcInit
import HandS.TryOnly
import HandS.ClsMeth
import HandS.Nested
import KE.KSuper
import HandS.Codes
import PyProof.InstNe
import HandS.FStr
import HandS.RaiseMore
import HandS.Flow
import HandS.ExcIs
import HandS.ExcField
import KE.KExcIs
import KE.GoesEnum
import KE.KOpsOwn
import HandS.NoneIn
import HandS.EndTab
import KE.KCallOwn
import PyProof.FactsLen
import PyProof.Calls
import PySem.Challenge.RW_rounddown_k02_results_of_offices
import OpenK.KMeth
import HandS.DictComp
import HandS.More
import HandS.Conv
import KE.DatumOrd
import HandS.Text
import HandS.CallSlots
import HandS.Finally
import HandS.SetFor
import HandS.Strs
import HandS.Zip
import KE.SortData
import KE.DataMinMax
import HandS.GenCall
import HandS.GenList
import HandS.OwnEq
import KE.KIntText
set_option Elab.async false
set_option linter.all false
set_option maxRecDepth 100000
/-! Hs0: a small head: what the walk leans on is decided by one look at the heap behind the top. -/
namespace Hs
open PySem L2 PySem.Spec PyProof.Rows He
abbrev Frag := PySem.W.Frag
/-! ### what the module's names reach: by a mask of addresses -/
def goA (g : Addr → Option Obj) : Nat → List Addr → Nat → List Addr → List Addr
  | 0, _, _, acc => acc
  | n + 1, [], m, acc => acc
  | n + 1, a :: r, m, acc => match Nat.testBit m a with
    | true => goA g n r m acc
    | false => match g a with
      | some o => goA g n (refsD o ++ r) (m ||| (1 <<< a)) (a :: acc)
      | none => goA g n r (m ||| (1 <<< a)) acc
/-- all that main reaches -/
def reach (g : Addr → Option Obj) (n : Nat) : List Addr := (goA g n [mainGlobals] 0 []).reverse ++ [cStatics]
/-! ### functions -/
abbrev FnV : Type := Option (Str × Str × Arguments × FuncBody × Scope × Addr × List Str × Addr)
def fnV (K : Frag) (a : Addr) : FnV := match K.lookup a with
  | some ⟨_, _, .func fd, _⟩ => some (fd.name, fd.qualname, fd.params, fd.body, fd.scope, fd.globals, fd.closure.map (·.1), fd.builtins)
  | _ => none
structure Df where
  at_ : Frag → Addr
  name : Str
  qual : Str
  st : Stmt
  cl : List Str := []
  df : Nat := 0
def Df.val (d : Df) : FnV := some (d.name, d.qual, defArgs d.st, .stmts (defBody d.st), defScope d.st, mainGlobals, d.cl, builtinsNs)
theorem codeRef {K : Frag} {cd : Value} {q : Str} (h : PySem.W.codeIn K cd q = true) : ∃ c, cd = .ref c := by
  cases cd with
  | ref c => exact ⟨c, rfl⟩
  | _ => cases h
def noneB : Value → Bool
  | .none => true
  | _ => false
theorem noneB_ok {v : Value} (h : noneB v = true) : v = .none := by
  cases v with
  | none => rfl
  | _ => cases h
def seqB (K : Frag) (k : Nat) : Value → Bool
  | .ref T => (match K.lookup T with
    | some o => (match o.data with
      | .seq its _ => decide (its.size = k)
      | _ => false)
    | _ => false)
  | _ => false
theorem seqB_ok {K : Frag} {v : Value} {k : Nat} (h : seqB K k v = true) : ∃ T o its m, v = .ref T ∧ K.lookup T = some o ∧ o.data = .seq its m ∧ its.size = k := by
  cases v with
  | ref T =>
    unfold seqB at h
    dsimp only at h
    cases e : K.lookup T with
    | none =>
      rw [e] at h
      cases h
    | some o =>
      rw [e] at h
      dsimp only at h
      cases e2 : o.data with
      | seq its m =>
        rw [e2] at h
        exact ⟨T, o, its, m, rfl, e, e2, of_decide_eq_true h⟩
      | _ =>
        rw [e2] at h
        cases h
  | _ => cases h
def Df.ok (K : Frag) (d : Df) : Bool := match K.lookup (d.at_ K) with
  | some ⟨_, _, .func fd, _⟩ => PySem.W.codeIn K fd.code d.qual && (match d.df with | 0 => noneB fd.defaults | k + 1 => seqB K (k + 1) fd.defaults)
  | _ => false
def ccOf (K : Frag) (f : Addr) : Addr := match K.lookup f with
  | some ⟨_, _, .func fd, _⟩ => (match fd.closure with
    | (_, a) :: _ => a
    | [] => 0)
  | _ => 0
theorem Df.get {K : Frag} {d : Df} (e : fnV K (d.at_ K) = d.val) (c : d.ok K = true) (h : d.cl = []) (hd : d.df = 0) :
    ∃ oc od osl kV dc pm an cd ct, K.lookup (d.at_ K) = some ⟨oc, od, .func (PySem.W.fnOf d.name d.qual (defArgs d.st) (defBody d.st) (defScope d.st) .none kV dc pm an cd ct), osl⟩ ∧ PySem.W.codeIn K cd d.qual = true := by
  unfold fnV at e
  unfold Df.ok at c
  cases q : K.lookup (d.at_ K) with
  | none =>
    rw [q] at c
    cases c
  | some o =>
    obtain ⟨oc, od, dt, osl⟩ := o
    rw [q] at c e
    cases dt with
    | func fd =>
      obtain ⟨n1, n2, n3, n4, n5, n6, n7, n8, n9, n10, n11, n12, n13, n14, n15⟩ := fd
      have e2 : (some (n1, n2, n3, n4, n5, n6, n7.map (·.1), n15) : FnV) = some (d.name, d.qual, defArgs d.st, .stmts (defBody d.st), defScope d.st, mainGlobals, d.cl, builtinsNs) := e
      simp only [Option.some.injEq, Prod.mk.injEq] at e2
      obtain ⟨h1, h2, h3, h4, h5, h6, h7, h8⟩ := e2
      obtain ⟨k1, k2⟩ := ba c
      rw [hd] at k2
      rw [h] at h7
      have h9 : n7 = [] := List.map_eq_nil_iff.mp h7
      have h10 : n8 = Value.none := noneB_ok k2
      subst h1 h2 h3 h4 h5 h6 h8 h9 h10
      exact ⟨oc, od, osl, n9, n10, n11, n12, n13, n14, rfl, k1⟩
    | _ => cases c
theorem Df.getD {K : Frag} {d : Df} (e : fnV K (d.at_ K) = d.val) (c : d.ok K = true) (h : d.cl = []) {k : Nat} (hd : d.df = k + 1) :
    ∃ oc od osl kV dc pm an cd ct T oT its mT, K.lookup (d.at_ K) = some ⟨oc, od, .func (PySem.W.fnOf d.name d.qual (defArgs d.st) (defBody d.st) (defScope d.st) (.ref T) kV dc pm an cd ct), osl⟩ ∧ PySem.W.codeIn K cd d.qual = true ∧ K.lookup T = some oT ∧ oT.data = .seq its mT ∧ its.size = k + 1 := by
  unfold fnV at e
  unfold Df.ok at c
  cases q : K.lookup (d.at_ K) with
  | none =>
    rw [q] at c
    cases c
  | some o =>
    obtain ⟨oc, od, dt, osl⟩ := o
    rw [q] at c e
    cases dt with
    | func fd =>
      obtain ⟨n1, n2, n3, n4, n5, n6, n7, n8, n9, n10, n11, n12, n13, n14, n15⟩ := fd
      have e2 : (some (n1, n2, n3, n4, n5, n6, n7.map (·.1), n15) : FnV) = some (d.name, d.qual, defArgs d.st, .stmts (defBody d.st), defScope d.st, mainGlobals, d.cl, builtinsNs) := e
      simp only [Option.some.injEq, Prod.mk.injEq] at e2
      obtain ⟨h1, h2, h3, h4, h5, h6, h7, h8⟩ := e2
      obtain ⟨k1, k2⟩ := ba c
      rw [hd] at k2
      rw [h] at h7
      have h9 : n7 = [] := List.map_eq_nil_iff.mp h7
      obtain ⟨T, oT, its, mT, h10, hl, ho, hz⟩ := seqB_ok (show seqB K (k + 1) n8 = true from k2)
      subst h1 h2 h3 h4 h5 h6 h8 h9 h10
      exact ⟨oc, od, osl, n9, n10, n11, n12, n13, n14, T, oT, its, mT, rfl, k1, hl, ho, hz⟩
    | _ => cases c
theorem Df.getX {K : Frag} {d : Df} {x : Str} (e : fnV K (d.at_ K) = d.val) (c : d.ok K = true) (h : d.cl = [x]) (hd : d.df = 0) :
    ∃ oc od osl kV dc pm an cda ct, K.lookup (d.at_ K) = some ⟨oc, od, .func (PySem.W.fnX d.name d.qual (defArgs d.st) (defBody d.st) (defScope d.st) [(x, ccOf K (d.at_ K))] .none kV dc pm an (.ref cda) ct), osl⟩ ∧ PySem.W.codeIn K (.ref cda) d.qual = true := by
  unfold fnV at e
  unfold Df.ok at c
  unfold ccOf
  cases q : K.lookup (d.at_ K) with
  | none =>
    rw [q] at c
    cases c
  | some o =>
    obtain ⟨oc, od, dt, osl⟩ := o
    rw [q] at c e
    cases dt with
    | func fd =>
      obtain ⟨n1, n2, n3, n4, n5, n6, n7, n8, n9, n10, n11, n12, n13, n14, n15⟩ := fd
      have e2 : (some (n1, n2, n3, n4, n5, n6, n7.map (·.1), n15) : FnV) = some (d.name, d.qual, defArgs d.st, .stmts (defBody d.st), defScope d.st, mainGlobals, d.cl, builtinsNs) := e
      simp only [Option.some.injEq, Prod.mk.injEq] at e2
      obtain ⟨h1, h2, h3, h4, h5, h6, h7, h8⟩ := e2
      obtain ⟨k1, k2⟩ := ba c
      rw [hd] at k2
      rw [h] at h7
      obtain ⟨z, hz⟩ : ∃ z, n7 = [(x, z)] := by
        cases n7 with
        | nil => cases h7
        | cons p r =>
          obtain ⟨p1, p2⟩ := p
          cases r with
          | nil =>
            cases h7
            exact ⟨p2, rfl⟩
          | cons p' r' => cases h7
      have h10 : n8 = Value.none := noneB_ok k2
      obtain ⟨cda, hc⟩ := codeRef k1
      have h13 : n13 = .ref cda := hc
      subst h1 h2 h3 h4 h5 h6 h8 hz h10 h13
      exact ⟨oc, od, osl, n9, n10, n11, n12, cda, n14, rfl, k1⟩
    | _ => cases c
/-! ### the Hook -/
/-- every entry is in the heap -/
def AllK (K : Frag) (h : Heap) : Prop := ∀ p ∈ K, h.get? p.1 = some p.2
theorem frG_all {as : List Addr} {h : Heap} : AllK (frG h.get? as) h := fun p hp => by
  obtain ⟨a, _, e⟩ := List.mem_filterMap.mp hp
  cases q : h.get? a with
  | none => rw [q] at e; cases e
  | some o => rw [q] at e; cases e; exact q
theorem AllK.keeps {K : Frag} {h h' : Heap} (x : AllK K h) (k : ∀ b o, h.get? b = some o → h'.get? b = some o) : AllK K h' := fun p hp => k _ _ (x p hp)
abbrev Al : Type := Bool × List FnV
def obsK (ex : List (Frag → Bool)) (fn : List Df) (K : Frag) : Al := ((ex.all fun f => f K) && fn.all fun d => d.ok K, fn.map fun d => fnV K (d.at_ K))
def valK (fn : List Df) : Al := (true, fn.map Df.val)
def Says (ex : List (Frag → Bool)) (fn : List Df) (K : Frag) : Prop := obsK ex fn K = valK fn
section
variable {ex : List (Frag → Bool)} {fn : List Df} {K : Frag}
theorem Says.fact (c : Says ex fn K) (i : Nat) {f : Frag → Bool} (h : ex[i]? = some f := by rfl) : f K = true := by
  have c1 := (ba (show ((ex.all fun f => f K) && fn.all fun d => d.ok K) = true from congrArg (fun z : Al => z.1) c)).1
  exact List.all_eq_true.mp c1 f (List.mem_of_getElem? h)
theorem Says.def_ (c : Says ex fn K) (i : Nat) {d : Df} (h : fn[i]? = some d := by rfl) : fnV K (d.at_ K) = d.val ∧ d.ok K = true := by
  have c2 := (ba (show ((ex.all fun f => f K) && fn.all fun d => d.ok K) = true from congrArg (fun z : Al => z.1) c)).2
  have e : fn.map (fun d => fnV K (d.at_ K)) = fn.map Df.val := congrArg (fun z : Al => z.2) c
  have e2 : (fn.map fun d => fnV K (d.at_ K))[i]? = (fn.map Df.val)[i]? := by rw [e]
  rw [List.getElem?_map, List.getElem?_map, h] at e2
  exact ⟨Option.some.inj e2, List.all_eq_true.mp c2 d (List.mem_of_getElem? h)⟩
end
/-! ### facts with an open place -/
def pf (K : Frag) (p : Addr) : Addr := match PySem.W.recIn K p "property" with
  | some (.ref f :: _) => f
  | _ => 0
def pfB (K : Frag) (p : Addr) : Bool := match PySem.W.recIn K p "property" with
  | some (.ref _ :: _) => true
  | _ => false
theorem pf_ok {K : Frag} {p : Addr} (h : pfB K p = true) : ∃ z, PySem.W.recIn K p "property" = some (.ref (pf K p) :: z) := by
  unfold pfB at h
  unfold pf
  split at h
  · rename_i f z e
    exact ⟨z, by rw [e]⟩
  · cases h
def intO (i : Int) : Option (Option Value) → Bool
  | some (some (.int j _)) => decide (j = i)
  | _ => false
theorem intO_ok {i : Int} {o : Option (Option Value)} (h : intO i o = true) : ∃ t, o = some (some (.int i t)) := by
  unfold intO at h
  split at h
  · rename_i j t
    have e : j = i := of_decide_eq_true h
    subst e
    exact ⟨t, rfl⟩
  · cases h
def strO (x : Str) : Option (Option Value) → Bool
  | some (some (.str y _)) => decide (y = x)
  | _ => false
theorem strO_ok {x : Str} {o : Option (Option Value)} (h : strO x o = true) : ∃ t, o = some (some (.str x t)) := by
  unfold strO at h
  split at h
  · rename_i y t
    have e : y = x := of_decide_eq_true h
    subst e
    exact ⟨t, rfl⟩
  · cases h
def catO (i : Int) : Option PySem.W.CFound → Bool
  | some (.val (.int j _)) => decide (j = i)
  | _ => false
theorem catO_ok {i : Int} {o : Option PySem.W.CFound} (h : catO i o = true) : ∃ t, o = some (.val (.int i t)) := by
  unfold catO at h
  split at h
  · rename_i j t
    have e : j = i := of_decide_eq_true h
    subst e
    exact ⟨t, rfl⟩
  · cases h
def cvalO (v : Value) : Option PySem.W.CFound → Bool
  | some (.val u) => decide (u = v)
  | _ => false
theorem cvalO_ok {v : Value} {o : Option PySem.W.CFound} (h : cvalO v o = true) : o = some (.val v) := by
  unfold cvalO at h
  split at h
  · rename_i u
    have e : u = v := of_decide_eq_true h
    subst e
    rfl
  · cases h
/-- a closure's cell that holds the class at D -/
def cellB (K : Frag) (cc D : Addr) : Bool := match K.lookup cc with
  | some ⟨_, _, .cell (some v), _⟩ => decide (v = .ref D)
  | _ => false
theorem cellB_ok {K : Frag} {cc D : Addr} (h : cellB K cc D = true) : ∃ oc od sl, K.lookup cc = some ⟨oc, od, .cell (some (.ref D)), sl⟩ := by
  unfold cellB at h
  split at h
  · rename_i oc od v sl e
    have e2 : v = .ref D := of_decide_eq_true h
    subst e2
    exact ⟨oc, od, sl, e⟩
  · cases h
/-- a function's code stands in this file -/
def fileB (K : Frag) (f : Addr) (x : Str) : Bool := match K.lookup f with
  | some ⟨_, _, .func fd, _⟩ => (match fd.code with
    | .ref c => (match K.lookup c with
      | some ⟨_, _, .fields vs, _⟩ => (match (vs[2]? : Option Value) with
        | some (.str y _) => x == y
        | _ => false)
      | _ => false)
    | _ => false)
  | _ => false
theorem fileB_ok {K : Frag} {f c : Addr} {x : Str} {oc : Value} {od : Option Addr} {fd : FuncData} {osl : Array (Option Value)} (l : K.lookup f = some ⟨oc, od, .func fd, osl⟩) (e : fd.code = .ref c) (h : fileB K f x = true) :
    ∃ oc od vs sl y t, K.lookup c = some ⟨oc, od, .fields vs, sl⟩ ∧ vs[2]? = some (.str y t) ∧ (x == y) = true := by
  unfold fileB at h
  rw [l] at h
  have h1 : (match fd.code with
    | .ref c => (match K.lookup c with
      | some ⟨_, _, .fields vs, _⟩ => (match (vs[2]? : Option Value) with
        | some (.str y _) => x == y
        | _ => false)
      | _ => false)
    | _ => false) = true := h
  rw [e] at h1
  have h2 : (match K.lookup c with
      | some ⟨_, _, .fields vs, _⟩ => (match (vs[2]? : Option Value) with
        | some (.str y _) => x == y
        | _ => false)
      | _ => false) = true := h1
  split at h2
  · rename_i vs sl e2
    split at h2
    · rename_i y t e3
      exact ⟨_, _, vs, sl, y, t, e2, e3, h2⟩
    · cases h2
  · cases h2
def newB (nw : String) : List (Option Value) → Bool
  | [_, _, _, _, some (.builtin n), _] => decide (n = nw)
  | _ => false
theorem newB_ok {nw : String} {l : List (Option Value)} (h : newB nw l = true) : ∃ k0 k1 k2 k3 k5, l = [k0, k1, k2, k3, some (.builtin nw), k5] := by
  unfold newB at h
  split at h
  · rename_i k0 k1 k2 k3 n k5
    have e : n = nw := of_decide_eq_true h
    subst e
    exact ⟨k0, k1, k2, k3, k5, rfl⟩
  · cases h
/-- an own exception class -/
def excB (K : Frag) (C : Addr) (bm : List Value) (nw : String) : Bool := match K.lookup C with
  | some ⟨c, _, .cls cd, sl⟩ => decide (c = .type "type") && (decide (cd.mro = .ref C :: bm) && (decide (cd.hasDict = true) && (decide (cd.hasDel = false) && newB nw sl.toList)))
  | _ => false
theorem excB_ok {K : Frag} {C : Addr} {bm : List Value} {nw : String} (h : excB K C bm nw = true) :
    ∃ xa xb xd xe xf xg xh xj xk xl xm xo xp xr, K.lookup C = some (PySem.excClassObj xa xb C xd xe bm true xf xg xh xj xk xl xm xo xp xr nw) := by
  unfold excB at h
  split at h
  · rename_i c od cd sl e
    obtain ⟨h1, h⟩ := ba h
    obtain ⟨h2, h⟩ := ba h
    obtain ⟨h3, h⟩ := ba h
    obtain ⟨h4, h⟩ := ba h
    obtain ⟨k0, k1, k2, k3, k5, e2⟩ := newB_ok h
    obtain ⟨n, bs, mr, ns, q, hd, sn, sb, ab, col, del⟩ := cd
    have e3 : sl = #[k0, k1, k2, k3, some (.builtin nw), k5] := by
      rw [← Array.toArray_toList (xs := sl), e2]
    have e5 : c = .type "type" := of_decide_eq_true h1
    have e6 : mr = .ref C :: bm := of_decide_eq_true h2
    have e7 : hd = true := of_decide_eq_true h3
    have e8 : del = false := of_decide_eq_true h4
    subst e3 e5 e6 e7 e8
    exact ⟨_, _, _, _, _, _, _, _, _, _, _, _, _, _, e⟩
  · cases h
end Hs
namespace Dn
open PySem
/-- the i-th statement of a class -/
def clsDef (st : Stmt) (i : Nat) : Stmt := match st with
  | .ClassDef _ _ _ body _ _ _ _ _ _ _ => body.getD i (.Pass ⟨0, 0, 0, 0⟩)
  | _ => .Pass ⟨0, 0, 0, 0⟩
end Dn
/-! Ht: a module's tuple of texts. -/
/-! Hk: a def's keyword-only defaults in the heap. -/
/-! Den1: a law's code as a computation over values: what the heap holds is said once, here. -/
namespace Dn
open PySem L2
/-- a value as data -/
inductive PV where
  | non | bl (b : Bool) | int (i : Int) | str (s : Str) | tup (xs : List PV) | lst (xs : List PV) | scr (xs : List Int) | hnd (n : Nat) | obj (c : Str) (ks : List Str) (vs : List PV) | exn (c : Str) (ks : List Str) (vs : List PV) | dic (kvs : List (Str × Int)) | dct (ks : List Key) (vs : List PV) | kt (ks : List Key) | fn (q : Str) (f c : Addr) (us : List V) (ds : List PV)
/-- what a handle holds: a dict that changes -/
inductive MO where
  | dic (kvs : List (Key × PV))
  | ins (c : Str) (ks : List Str) (vs : List PV)
  | own (n : Nat)
  | dtt (kvs : List (List Key × PV))
  | gone
/-- what is frozen, and where the handles stand -/
structure Vw where
  F : Hp
  hs : List Addr
structure Vw.Le (W W' : Vw) : Prop where
  ex : Same W.F W'.F
  pre : ∀ (n : Nat) (a : Addr), W.hs[n]? = some a → W'.hs[n]? = some a
theorem Vw.Le.refl (W : Vw) : W.Le W := ⟨Same.refl _, fun _ _ h => h⟩
theorem Vw.Le.trans {W W1 W2 : Vw} (a : W.Le W1) (b : W1.Le W2) : W.Le W2 := ⟨a.ex.trans b.ex, fun n x h => b.pre n x (a.pre n x h)⟩
/-- an exception object as a tracked thing: its class, its dict -/
def exv (a : Addr) (cls : Value) (d : Option Addr) : HO := .ext fun h => ∃ (oe : Obj) (vs : Array Value), h.get? a = some oe ∧ Zc cls d oe ∧ oe.data = .fields vs
/-- the class of that name -/
def ClsAt (K : PySem.W.Frag) (c : Str) (C : Addr) : Prop := PySem.W.nsIn K mainGlobals c = some (some (.ref C))
mutual
inductive Rep (K : PySem.W.Frag) (W : Vw) : V → PV → Prop
  | non : Rep K W .non .non
  | bl (b : Bool) : Rep K W (.bl b) (.bl b)
  | int (i : Int) : Rep K W (.int i) (.int i)
  | str (s : Str) : Rep K W (.str s) (.str s)
  | tup {a : Addr} {vs : List V} {ds : List PV} : SqT K W.F a vs → Reps K W vs ds → Rep K W (.ref a) (.tup ds)
  | lst {a : Addr} {vs : List V} {ds : List PV} : W.F a = some (.lst vs) → Reps K W vs ds → Rep K W (.ref a) (.lst ds)
  | scr {a : Addr} {ns : List Int} : SqL K W.F a (ns.map V.int) → Rep K W (.ref a) (.scr ns)
  | hnd {a : Addr} {n : Nat} : W.hs[n]? = some a → Rep K W (.ref a) (.hnd n)
  | obj {x C dx : Addr} {c : Str} {ks : List Str} {us : List V} {vs : List PV} : ClsAt K c C → W.F x = some (.ins C dx (ks.zip us)) → W.F dx = some (.own x) → ks.length = vs.length → Reps K W us vs → Rep K W (.ref x) (.obj c ks vs)
  | exn {x C dx : Addr} {c : Str} {ks : List Str} {us : List V} {vs : List PV} : ClsAt K c C → W.F x = some (exv x (.ref C) (some dx)) → W.F dx = some (.xd (ks.zip us)) → ks.length = vs.length → Reps K W us vs → Rep K W (.ref x) (.exn c ks vs)
  | dic {a : Addr} {kvs : List (Str × Int)} : W.F a = some (.dK (kvs.map fun p => (Sum.inr p.1, V.int p.2))) → Rep K W (.ref a) (.dic kvs)
  | dct {a : Addr} {o : Obj} {ks : List Key} {us : List V} {vs : List PV} : W.F a = some (.frz o (.dK (ks.zip us))) → ks.length = vs.length → Reps K W us vs → Rep K W (.ref a) (.dct ks vs)
  | kt {a : Addr} {ks : List Key} : W.F a = some (.tup (ks.map kV)) → Rep K W (.ref a) (.kt ks)
  | fn {q : Str} {f c : Addr} {us : List V} {ds : List PV} : W.F c = some (LamX.CodeO c q) → Reps K W us ds → Rep K W (.ref f) (.fn q f c us ds)
inductive Reps (K : PySem.W.Frag) (W : Vw) : List V → List PV → Prop
  | nil : Reps K W [] []
  | cons {v : V} {vs : List V} {d : PV} {ds : List PV} : Rep K W v d → Reps K W vs ds → Reps K W (v :: vs) (d :: ds)
end
theorem same_t {K : PySem.W.Frag} {H H' : Hp} {a : Addr} {xs : List V} (e : Same H H') (h : SqT K H a xs) : SqT K H' a xs := by
  rcases h with (h | ⟨o, h⟩) | h
  · exact .inl (.inl (e _ _ h))
  · exact .inl (.inr ⟨o, e _ _ h⟩)
  · exact .inr h
mutual
theorem Rep.mono {K : PySem.W.Frag} {W W' : Vw} (l : W.Le W') : ∀ {v : V} {d : PV}, Rep K W v d → Rep K W' v d
  | _, _, .non => .non
  | _, _, .bl b => .bl b
  | _, _, .int i => .int i
  | _, _, .str s => .str s
  | _, _, .tup h r => .tup (same_t l.ex h) (Reps.mono l r)
  | _, _, .lst h r => .lst (l.ex _ _ h) (Reps.mono l r)
  | _, _, .scr h => .scr (l.ex.seq h)
  | _, _, .hnd h => .hnd (l.pre _ _ h)
  | _, _, .obj c h d n r => .obj c (l.ex _ _ h) (l.ex _ _ d) n (Reps.mono l r)
  | _, _, .exn c h d n r => .exn c (l.ex _ _ h) (l.ex _ _ d) n (Reps.mono l r)
  | _, _, .dic h => .dic (l.ex _ _ h)
  | _, _, .dct h n r => .dct (l.ex _ _ h) n (Reps.mono l r)
  | _, _, .kt h => .kt (l.ex _ _ h)
  | _, _, .fn h r => .fn (l.ex _ _ h) (Reps.mono l r)
theorem Reps.mono {K : PySem.W.Frag} {W W' : Vw} (l : W.Le W') : ∀ {vs : List V} {ds : List PV}, Reps K W vs ds → Reps K W' vs ds
  | _, _, .nil => .nil
  | _, _, .cons h r => .cons (Rep.mono l h) (Reps.mono l r)
end
section
variable {K : PySem.W.Frag} {W : Vw}
theorem Reps.length : ∀ {vs : List V} {ds : List PV}, Reps K W vs ds → vs.length = ds.length
  | _, _, .nil => rfl
  | _, _, .cons _ r => congrArg Nat.succ (Reps.length r)
theorem Reps.append : ∀ {vs ws : List V} {ds es : List PV}, Reps K W vs ds → Reps K W ws es → Reps K W (vs ++ ws) (ds ++ es)
  | _, _, _, _, .nil, s => s
  | _, _, _, _, .cons h r, s => .cons h (Reps.append r s)
theorem Reps.get : ∀ {vs : List V} {ds : List PV} {i : Nat} {d : PV}, Reps K W vs ds → ds[i]? = some d → ∃ v, vs[i]? = some v ∧ Rep K W v d
  | _, _, i, _, .nil, e => by simp at e
  | _, _, 0, _, .cons h _, e => by simp at e; subst e; exact ⟨_, rfl, h⟩
  | _, _, i + 1, d, .cons _ r, e => by
    obtain ⟨v, h1, h2⟩ := Reps.get (i := i) (d := d) r (by simpa using e)
    exact ⟨v, by simpa using h1, h2⟩
theorem Reps.getV : ∀ {vs : List V} {ds : List PV} {i : Nat} {v : V}, Reps K W vs ds → vs[i]? = some v → ∃ d, ds[i]? = some d ∧ Rep K W v d
  | _, _, i, _, .nil, e => by simp at e
  | _, _, 0, _, .cons h _, e => by simp at e; subst e; exact ⟨_, rfl, h⟩
  | _, _, i + 1, d, .cons _ r, e => by
    obtain ⟨v, h1, h2⟩ := Reps.getV (i := i) (v := d) r (by simpa using e)
    exact ⟨v, by simpa using h1, h2⟩
theorem Reps.take : ∀ {vs : List V} {ds : List PV} (n : Nat), Reps K W vs ds → Reps K W (vs.take n) (ds.take n)
  | _, _, 0, _ => .nil
  | _, _, _ + 1, .nil => .nil
  | _, _, n + 1, .cons h r => .cons h (Reps.take n r)
theorem Reps.drop : ∀ {vs : List V} {ds : List PV} (n : Nat), Reps K W vs ds → Reps K W (vs.drop n) (ds.drop n)
  | _, _, 0, r => r
  | _, _, _ + 1, .nil => .nil
  | _, _, n + 1, .cons _ r => Reps.drop n r
theorem Reps.set {v : V} {d : PV} (q : Rep K W v d) : ∀ {vs : List V} {ds : List PV} (n : Nat), Reps K W vs ds → Reps K W (vs.set n v) (ds.set n d)
  | _, _, _, .nil => .nil
  | _, _, 0, .cons _ r => .cons q r
  | _, _, n + 1, .cons h r => .cons h (Reps.set q n r)
theorem Reps.rep {vs : List V} {ds : List PV} (r : Reps K W vs ds) : ∀ n : Nat, Reps K W (List.replicate n vs).flatten (List.replicate n ds).flatten
  | 0 => .nil
  | n + 1 => by
    rw [List.replicate_succ, List.replicate_succ, List.flatten_cons, List.flatten_cons]
    exact r.append (Reps.rep r n)
theorem Reps.ints : ∀ (ns : List Int), Reps K W (ns.map V.int) (ns.map PV.int)
  | [] => .nil
  | n :: ns => .cons (.int n) (Reps.ints ns)
/-- the values of texts are texts -/
theorem Reps.of_strs : ∀ {vs : List V} {ns : List Str}, Reps K W vs (ns.map PV.str) → vs = ns.map V.str
  | _, [], .nil => rfl
  | _, n :: ns, .cons h r => by
    cases h
    rw [Reps.of_strs r]
    rfl
theorem Reps.of_bls : ∀ {vs : List V} {ns : List Bool}, Reps K W vs (ns.map PV.bl) → vs = ns.map V.bl
  | _, [], .nil => rfl
  | _, n :: ns, .cons h r => by
    cases h
    rw [Reps.of_bls r]
    rfl
end
/-! ### a dict's pairs -/
inductive KVs {κ : Type} (K : PySem.W.Frag) (W : Vw) : List (κ × V) → List (κ × PV) → Prop
  | nil : KVs K W [] []
  | cons {k : κ} {v : V} {d : PV} {r : List (κ × V)} {s : List (κ × PV)} : Rep K W v d → KVs K W r s → KVs K W ((k, v) :: r) ((k, d) :: s)
theorem KVs.mono {κ : Type} {K : PySem.W.Frag} {W W' : Vw} (l : W.Le W') : ∀ {r : List (κ × V)} {s : List (κ × PV)}, KVs K W r s → KVs K W' r s
  | _, _, .nil => .nil
  | _, _, .cons h r => .cons (h.mono l) (KVs.mono l r)
/-- what a handle's object is in the heap -/
inductive MRep (K : PySem.W.Frag) (W : Vw) (H : Hp) (a : Addr) : MO → Prop
  | dic {kvs : List (Key × V)} {ds : List (Key × PV)} : H a = some (.dK kvs) → KVs K W kvs ds → MRep K W H a (.dic ds)
  | ins {C dx : Addr} {n : Nat} {c : Str} {ks : List Str} {us : List V} {vs : List PV} : ClsAt K c C → H a = some (.ins C dx (ks.zip us)) → W.hs[n]? = some a → W.hs[n + 1]? = some dx → ks.length = vs.length → Reps K W us vs → MRep K W H a (.ins c ks vs)
  | own {n : Nat} {x : Addr} : W.hs[n]? = some x → H a = some (.own x) → MRep K W H a (.own n)
  | dtt {kvs : List (List Key × V)} {ds : List (List Key × PV)} : H a = some (.dT kvs) → KVs K W kvs ds → MRep K W H a (.dtt ds)
/-! ### the state of a body -/
inductive SV where
  | val (d : PV)
  | own (xs : List PV)
abbrev Env := List (Option SV)
structure S where
  env : Env
  sto : List MO
structure Ctx where
  G : Hp
  F0 : Hp
  hs0 : List Addr
  X : WX
abbrev Ctx.wi (C : Ctx) (Y : WX) : Ctx := { C with X := Y }
/-- a handle's place: live, or frozen long ago -/
def Hd (K : PySem.W.Frag) (W : Vw) (st : List MO) (H : Hp) (n : Nat) (a : Addr) : Prop := (W.F a = none ∧ ∃ mo, st[n]? = some mo ∧ MRep K W H a mo) ∨ (W.F a ≠ none ∧ st[n]? = some .gone)
/-- a table of code objects may grow, all else stays -/
def Kp (o : HO) (u : Option HO) : Prop := u = some o ∨ ((∃ ps, o = .tbl ps) ∧ ∃ ps, u = some (.tbl ps))
theorem Kp.eq {o : HO} {u : Option HO} (h : Kp o u) (n : ∀ ps, o ≠ .tbl ps) : u = some o := h.elim id fun ⟨⟨ps, e⟩, _⟩ => absurd e (n ps)
theorem Kp.ne {o : HO} {u : Option HO} (h : Kp o u) : u ≠ none := by
  rcases h with e | ⟨_, ps, e⟩ <;> (rw [e]; exact fun z => nomatch z)
theorem Kp.trans {o : HO} {u : Option HO} {H : Hp} {a : Addr} (h : Kp o (H a)) (k : ∀ o', H a = some o' → Kp o' u) : Kp o u := by
  rcases h with e | ⟨h1, ps, e⟩
  · exact k o e
  · rcases k _ e with z | ⟨_, z⟩
    · exact .inr ⟨h1, ps, z⟩
    · exact .inr ⟨h1, z⟩
/-- the module's fragment names the tables that may grow: by entries that no look finds -/
def markO (P : Addr) (q : Str) : Obj := { cls := .none, data := .fields #[.ref P, .str q 0] }
def MarkK (K : PySem.W.Frag) (P : Addr) (q : Str) : Prop := (mainGlobals, markO P q) ∈ K
structure TabW (W : Vw) (H : Hp) (P : Addr) (q : Str) : Prop where
  f : W.F P = none
  t : ∃ ps : Array Value, H P = some (.tbl ps) ∧ TriplesOk ps.toList ∧ ∀ (pos : Pos) (cv : Value), codeAmong pos ps.toList = some cv → ∃ c, cv = .ref c ∧ W.F c = some (LamX.CodeO c q)
def TabK (K : PySem.W.Frag) (W : Vw) (H : Hp) : Prop := ∀ P q, MarkK K P q → TabW W H P q
theorem TabW.up {W W' : Vw} {H H' : Hp} {P : Addr} {q : Str} (h : TabW W H P q) (l : ∀ a o, W.F a = some o → W'.F a = some o) (f : W'.F P = none) (e : H' P = H P) : TabW W' H' P q := by
  obtain ⟨_, ps, e1, e2, e3⟩ := h
  exact ⟨f, ps, e.trans e1, e2, fun pos cv hc => let ⟨c, r1, r2⟩ := e3 pos cv hc; ⟨c, r1, l _ _ r2⟩⟩
theorem TabK.up {K : PySem.W.Frag} {W W' : Vw} {H H' : Hp} (h : TabK K W H) (l : ∀ a o, W.F a = some o → W'.F a = some o) (e : ∀ P ps, H P = some (.tbl ps) → W.F P = none → W'.F P = none ∧ H' P = some (.tbl ps)) : TabK K W' H' := fun P q m => by
  have t := h P q m
  obtain ⟨f, ps, e1, _⟩ := id t
  obtain ⟨k1, k2⟩ := e P ps e1 f
  exact t.up l k1 (k2.trans e1.symm)
/-- a cell of the abstract heap that is new or of another kind is written -/
theorem TabK.upd {K : PySem.W.Frag} {W : Vw} {H : Hp} {a : Addr} {o : HO} (h : TabK K W H) (n : ∀ ps, H a ≠ some (.tbl ps)) : TabK K W (upd H a o) := h.up (fun _ _ e => e) fun P ps e f => ⟨f, by rw [upd_ne (fun z => n ps (by rw [← z]; exact e))]; exact e⟩
theorem TabK.updF {K : PySem.W.Frag} {W : Vw} {H : Hp} {a : Addr} {o : HO} {hs : List Addr} (h : TabK K W H) (hn : W.F a = none) (n : ∀ ps, H a ≠ some (.tbl ps)) : TabK K ⟨L2.upd W.F a o, hs⟩ H := h.up (fun b u e => by show L2.upd W.F a o b = _; rw [upd_ne (ne_of_none e hn)]; exact e) fun P ps e f => ⟨by show L2.upd W.F a o P = _; rw [upd_ne (fun z => n ps (by rw [← z]; exact e))]; exact f, e⟩
theorem TabK.updB {K : PySem.W.Frag} {W : Vw} {H : Hp} {a : Addr} {o u : HO} {hs : List Addr} (h : TabK K W H) (hn : W.F a = none) (n : ∀ ps, H a ≠ some (.tbl ps)) : TabK K ⟨L2.upd W.F a o, hs⟩ (L2.upd H a u) := TabK.upd (h.updF hn n) n
theorem TabK.hs {K : PySem.W.Frag} {W : Vw} {H : Hp} {hs : List Addr} (h : TabK K W H) : TabK K ⟨W.F, hs⟩ H := h.up (fun _ _ e => e) fun P ps e f => ⟨f, e⟩
theorem no_tbl0 {H : Hp} {a : Addr} (h : H a = none) : ∀ ps, H a ≠ some (.tbl ps) := fun ps z => by rw [h] at z; cases z
structure Okk (K : PySem.W.Frag) (W : Vw) (st : List MO) (H : Hp) : Prop where
  sub : Same W.F H
  hnd : ∀ (n : Nat) (a : Addr), W.hs[n]? = some a → Hd K W st H n a
  nd : W.hs.Nodup
  len : st.length = W.hs.length
  tab : TabK K W H
structure Owns (C : Ctx) (W : Vw) (a : Addr) : Prop where
  f : W.F a = none
  h : a ∉ W.hs
  g : C.G a = none
structure At (K : PySem.W.Frag) (C : Ctx) (W : Vw) (s : S) (σ : L2.St) (H : Hp) : Prop where
  ok : Okk K W s.sto H
  keep : ∀ a o, C.G a = some o → a ∉ C.hs0 → Kp o (H a)
  pre : ∀ (n : Nat) (a : Addr), C.hs0[n]? = some a → W.hs[n]? = some a
  gro : ∀ a, C.G a ≠ none → W.F a = C.F0 a ∧ (a ∈ W.hs → a ∈ C.hs0)
  len : σ.length = s.env.length
  val : ∀ (i : Nat) (d : PV), s.env[i]? = some (some (.val d)) → ∃ v, σ[i]? = some (some v) ∧ Rep K W v d
  own : ∀ (i : Nat) (xs : List PV), s.env[i]? = some (some (.own xs)) → ∃ a vs, σ[i]? = some (some (.ref a)) ∧ Owns C W a ∧ H a = some (.lst vs) ∧ Reps K W vs xs
  dst : ∀ (i j : Nat) (xs ys : List PV) (a : Addr), s.env[i]? = some (some (.own xs)) → s.env[j]? = some (some (.own ys)) → σ[i]? = some (some (.ref a)) → σ[j]? = some (some (.ref a)) → i = j
theorem At.wi {K : PySem.W.Frag} {C : Ctx} {W : Vw} {s : S} {σ : L2.St} {H : Hp} (h : At K C W s σ H) (Y : WX) : At K (C.wi Y) W s σ H := ⟨h.ok, h.keep, h.pre, h.gro, h.len, h.val, fun i xs e => let ⟨a, vs, e1, ow, r⟩ := h.own i xs e; ⟨a, vs, e1, ⟨ow.f, ow.h, ow.g⟩, r⟩, h.dst⟩
/-- an exception's object, as data -/
inductive ERep (K : PySem.W.Frag) (W : Vw) : Value → Option Addr → PV → Prop
  | own {C dx : Addr} {c : Str} {ks : List Str} {us : List V} {vs : List PV} : ClsAt K c C → W.F dx = some (.xd (ks.zip us)) → ks.length = vs.length → Reps K W us vs → ERep K W (.ref C) (some dx) (.obj c ks vs)
  | blt {T : String} {d : Option Addr} : ERep K W (.type T) d (.tup [.str T])
/-! ### computations -/
inductive Res (τ α : Type) where
  | ok (a : α) (s : τ)
  | exc (e : PV) (s : τ)
  | stk
abbrev M (α : Type) := S → Res S α
def bnd {α β : Type} (c : M α) (f : α → M β) : M β := fun s => match c s with
  | .ok a s' => f a s'
  | .exc e s' => .exc e s'
  | .stk => .stk
def ret {α : Type} (a : α) : M α := fun s => .ok a s
def stuck {α : Type} : M α := fun _ => .stk
/-- a partial answer -/
def lft {α : Type} (o : Option α) : M α := fun s => match o with
  | some a => .ok a s
  | none => .stk
section
variable {K : PySem.W.Frag} {C : Ctx} {W W' : Vw} {σ : L2.St} {H : Hp} {s : S} {α β : Type}
/-- what is wanted of an answer -/
def Pst (K : PySem.W.Frag) (C : Ctx) (W : Vw) (σ : L2.St) (r : Res S α) (Q : α → S → Vw → Hp → Prop) : Prop := match r with
  | .ok a s' => ∀ W' H', W.Le W' → At K C W' s' σ H' → Q a s' W' H'
  | .exc e s' => ∀ W' σ' H' cls d, W.Le W' → At K C W' s' σ' H' → ERep K W' cls d e → C.X cls d σ' H'
  | .stk => False
theorem Pst.imp {r : Res S α} {Q Q' : α → S → Vw → Hp → Prop} (h : Pst K C W σ r Q) (f : ∀ a s' W' H', W.Le W' → At K C W' s' σ H' → Q a s' W' H' → Q' a s' W' H') : Pst K C W σ r Q' := by
  cases r with
  | ok a s' => exact fun W' H' l at' => f a s' W' H' l at' (h W' H' l at')
  | exc => exact h
  | stk => exact h
theorem Pst.up {r : Res S α} {Q : α → S → Vw → Hp → Prop} (l : W.Le W') (h : Pst K C W σ r Q) : Pst K C W' σ r Q := by
  cases r with
  | ok a s' => exact fun W2 H2 l2 at2 => h W2 H2 (l.trans l2) at2
  | exc e s' => exact fun W2 σ2 H2 cls d l2 at2 r => h W2 σ2 H2 cls d (l.trans l2) at2 r
  | stk => exact h
theorem Pst.bnd {c : M α} {f : α → M β} {Q : β → S → Vw → Hp → Prop} (h : Pst K C W σ (bnd c f s) Q) : Pst K C W σ (c s) (fun a s1 W1 _ => Pst K C W1 σ (f a s1) Q) := by
  unfold Dn.bnd at h
  cases e : c s with
  | ok a s1 =>
    rw [e] at h
    exact fun W1 H1 l _ => h.up l
  | exc => rw [e] at h; exact h
  | stk => rw [e] at h; exact h
theorem Pst.lft {o : Option α} {Q : α → S → Vw → Hp → Prop} (h : Pst K C W σ (lft o s) Q) (at' : At K C W s σ H) : ∃ a, o = some a ∧ Q a s W H := by
  unfold Dn.lft at h
  cases o with
  | none => exact h.elim
  | some a => exact ⟨a, rfl, h W H (Vw.Le.refl W) at'⟩
/-- an expression's reading: it answers as c does -/
def den (K : PySem.W.Frag) (Y : WX) (c : M PV) : TE := fun σ H Q => ∃ (C : Ctx) (W : Vw) (s : S), At K (C.wi Y) W s σ H ∧ Pst K (C.wi Y) W σ (c s) (fun d _ W' H' => ∀ v, Rep K W' v d → Q v H')
/-- a test's -/
def denT (K : PySem.W.Frag) (Y : WX) (c : M Bool) : TT := fun σ H Q => ∃ (C : Ctx) (W : Vw) (s : S), At K (C.wi Y) W s σ H ∧ Pst K (C.wi Y) W σ (c s) (fun b _ _ H' => Q b H')
/-- arguments' -/
def denA (K : PySem.W.Frag) (Y : WX) (c : M (List PV)) : TA := fun σ H Q => ∃ (C : Ctx) (W : Vw) (s : S), At K (C.wi Y) W s σ H ∧ Pst K (C.wi Y) W σ (c s) (fun ds _ W' H' => ∀ vs, Reps K W' vs ds → Q vs H')
/-- an expression that makes a new list, nobody's yet -/
def denO (K : PySem.W.Frag) (Y : WX) (c : M (List PV)) : TE := fun σ H Q => ∃ (C : Ctx) (W : Vw) (s : S), At K (C.wi Y) W s σ H ∧ Pst K (C.wi Y) W σ (c s) (fun ds _ W' H' => ∀ p vs, H' p = none → Reps K W' vs ds → Q (.ref p) (upd H' p (.lst vs)))
inductive Fl where
  | nx | rt (d : PV) | bk | ct | ro (xs : List PV)
/-- a statement's: the slots may change -/
def PstS (K : PySem.W.Frag) (C : Ctx) (W : Vw) (D : Ends) (r : Res S Fl) : Prop := match r with
  | .ok fl s' => ∀ W' σ' H', W.Le W' → At K C W' s' σ' H' → (match fl with
    | .nx => D.nx σ' H'
    | .rt d => ∀ v, Rep K W' v d → D.rt v H'
    | .bk => D.bk σ' H'
    | .ct => D.ct σ' H'
    | .ro xs => ∀ a vs, Owns C W' a → H' a = some (.lst vs) → Reps K W' vs xs → D.rt (.ref a) H')
  | .exc e s' => ∀ W' σ' H' cls d, W.Le W' → At K C W' s' σ' H' → ERep K W' cls d e → C.X cls d σ' H'
  | .stk => False
def denS (K : PySem.W.Frag) (Y : WX) (c : M Fl) : TS := fun D σ H => ∃ (C : Ctx) (W : Vw) (s : S), At K (C.wi Y) W s σ H ∧ PstS K (C.wi Y) W D (c s)
end
theorem pe_imp {X : Cx} {e : Expr} {t t' : TE} (h : PE X e t) (f : ∀ σ H Q, t' σ H Q → t σ H Q) : PE X e t' := ⟨fun pins s σ H Q I q => h.run pins s σ H Q I (f σ H Q q)⟩
theorem pt_imp {X : Cx} {e : Expr} {t t' : TT} (h : PT X e t) (f : ∀ σ H Q, t' σ H Q → t σ H Q) : PT X e t' := ⟨fun pins s σ H Q I q => h.run pins s σ H Q I (f σ H Q q)⟩
theorem pw_imp {X : Cx} {e : Expr} {t t' : TT} (h : PW X e t) (f : ∀ σ H Q, t' σ H Q → t σ H Q) : PW X e t' := ⟨fun wh pins s σ H Q I q => h.run wh pins s σ H Q I (f σ H Q q)⟩
theorem pa_imp {X : Cx} {e : List Expr} {t t' : TA} (h : PA X e t) (f : ∀ σ H Q, t' σ H Q → t σ H Q) : PA X e t' := ⟨fun pos pins s σ H Q I q => h.run pos pins s σ H Q I (f σ H Q q)⟩
theorem ps_imp {X : Cx} {e : Stmt} {t t' : TS} (h : PS X e t) (f : ∀ D σ H, t' D σ H → t D σ H) : PS X e t' := ⟨fun pins s σ H D I q => h.run pins s σ H D I (f D σ H q)⟩
theorem pss_imp {X : Cx} {e : List Stmt} {t t' : TS} (h : PSs X e t) (f : ∀ D σ H, t' D σ H → t D σ H) : PSs X e t' := ⟨fun pins s σ H D I q => h.run pins s σ H D I (f D σ H q)⟩
/-! ### the state changes -/
section
variable {K : PySem.W.Frag} {C : Ctx} {W W' : Vw} {σ : L2.St} {H : Hp} {s : S} {p a : Addr} {o : HO} {vs : List V} {ds xs : List PV} {d : PV} {v : V} {i : Nat}
theorem MRep.some {mo : MO} (r : MRep K W H a mo) : ∃ o, H a = Option.some o := by
  cases r with
  | dic e k => exact ⟨_, e⟩
  | ins c e => exact ⟨_, e⟩
  | own n e => exact ⟨_, e⟩
  | dtt e k => exact ⟨_, e⟩
theorem Okk.some {st : List MO} {n : Nat} (h : Okk K W st H) (e : W.hs[n]? = Option.some a) : H a ≠ none := by
  rcases h.hnd n a e with ⟨_, mo, _, mr⟩ | ⟨f, _⟩
  · obtain ⟨o, e⟩ := mr.some
    rw [e]
    exact fun z => nomatch z
  · cases z : W.F a with
    | none => exact absurd z f
    | some o =>
      rw [h.sub a o z]
      exact fun z => nomatch z
theorem Okk.live {st : List MO} {n : Nat} {mo : MO} (h : Okk K W st H) (e : W.hs[n]? = Option.some a) (hs : st[n]? = Option.some mo) (hm : mo ≠ .gone) : W.F a = none ∧ MRep K W H a mo := by
  rcases h.hnd n a e with ⟨f, mo', e', mr⟩ | ⟨_, g⟩
  · rw [hs] at e'
    cases e'
    exact ⟨f, mr⟩
  · rw [hs] at g
    exact absurd (Option.some.inj g) hm
theorem Okk.no_tbl {st : List MO} {n : Nat} (h : Okk K W st H) (e : W.hs[n]? = Option.some a) : W.F a = none → ∀ ps, H a ≠ Option.some (.tbl ps) := fun f ps z => by
  rcases h.hnd n a e with ⟨_, mo, _, mr⟩ | ⟨f', _⟩
  · cases mr <;> (rename_i e2 _; first | (rw [z] at e2; cases e2) | skip)
    all_goals first | (rename_i e2; rw [z] at e2; cases e2) | skip
    all_goals simp_all
  · exact f' f
theorem At.fresh (h : At K C W s σ H) (hp : H p = none) : W.F p = none ∧ p ∉ W.hs ∧ C.G p = none := by
  refine ⟨h.ok.sub.free hp, fun hm => ?_, ?_⟩
  · obtain ⟨n, hn⟩ := List.getElem?_of_mem hm
    exact h.ok.some hn hp
  · cases e : C.G p with
    | none => rfl
    | some o =>
      by_cases hm : p ∈ C.hs0
      · obtain ⟨n, hn⟩ := List.getElem?_of_mem hm
        exact absurd hp (h.ok.some (h.pre n p hn))
      · exact absurd hp (h.keep p o e hm).ne
theorem MRep.mono {mo : MO} (l : W.Le W') (r : MRep K W H a mo) : MRep K W' H a mo := by
  cases r with
  | dic e k => exact .dic e (k.mono l)
  | ins c e n m k r => exact .ins c e (l.pre _ _ n) (l.pre _ _ m) k (r.mono l)
  | own n e => exact .own (l.pre _ _ n) e
  | dtt e k => exact .dtt e (k.mono l)
theorem MRep.at {mo : MO} {H' : Hp} (r : MRep K W H a mo) (e' : H' a = H a) : MRep K W H' a mo := by
  cases r with
  | dic e k => exact .dic (e'.trans e) k
  | ins c e n m k r => exact .ins c (e'.trans e) n m k r
  | own n e => exact .own n (e'.trans e)
  | dtt e k => exact .dtt (e'.trans e) k
theorem MRep.other {mo : MO} (r : MRep K W H a mo) (n : a ≠ p) : MRep K W (upd H p o) a mo := r.at (upd_ne n)
theorem Hd.map {st st' : List MO} {H' : Hp} {n m : Nat} (h : Hd K W st H n a) (hF : W'.F a = W.F a) (hs : st'[m]? = st[n]?) (f : ∀ mo, MRep K W H a mo → MRep K W' H' a mo) : Hd K W' st' H' m a := by
  rcases h with ⟨g1, mo, g2, g3⟩ | ⟨g1, g2⟩
  · exact .inl ⟨hF.trans g1, mo, hs.trans g2, f mo g3⟩
  · exact .inr ⟨by rw [hF]; exact g1, hs.trans g2⟩
/-- a new object laid and frozen at once -/
theorem At.lay (h : At K C W s σ H) (hp : H p = none) (o : HO) : W.Le ⟨upd W.F p o, W.hs⟩ ∧ At K C ⟨upd W.F p o, W.hs⟩ s σ (upd H p o) := by
  obtain ⟨f1, f2, f3⟩ := h.fresh hp
  have le : W.Le ⟨upd W.F p o, W.hs⟩ := ⟨fun b u e => by show upd W.F p o b = some u; rw [upd_ne (ne_of_none e f1)]; exact e, fun _ _ e => e⟩
  refine ⟨le, ⟨⟨fun b u e => ?_, fun n b e => ?_, h.ok.nd, h.ok.len, h.ok.tab.updB f1 (no_tbl0 hp)⟩, fun b u e hb => ?_, h.pre, fun b hb => ?_, h.len, fun j d e => ?_, fun j ys e => ?_, h.dst⟩⟩
  · have e : upd W.F p o b = some u := e
    by_cases hb : b = p
    · subst hb
      rw [upd_same] at e ⊢
      exact e
    · rw [upd_ne hb] at e ⊢
      exact h.ok.sub b u e
  · have hb : b ≠ p := fun z => f2 (z ▸ List.mem_of_getElem? e)
    exact (h.ok.hnd n b e).map (by show upd W.F p o b = _; rw [upd_ne hb]) rfl fun mo g3 => (g3.other hb).mono le
  · have hb' : b ≠ p := fun z => by rw [z, f3] at e; cases e
    rw [upd_ne hb']
    exact h.keep b u e hb
  · obtain ⟨r1, r2⟩ := h.gro b hb
    exact ⟨by show upd W.F p o b = _; rw [upd_ne (fun z => hb (by rw [z]; exact f3))]; exact r1, r2⟩
  · obtain ⟨v, e1, r⟩ := h.val j d e
    exact ⟨v, e1, r.mono le⟩
  · obtain ⟨b, ws, e1, ow, e2, r⟩ := h.own j ys e
    have hb : b ≠ p := ne_of_none e2 hp
    exact ⟨b, ws, e1, ⟨by show upd W.F p o b = _; rw [upd_ne hb]; exact ow.f, ow.h, ow.g⟩, by rw [upd_ne hb]; exact e2, r.mono le⟩
/-- a list that nobody holds is frozen where it stands -/
theorem At.adopt (h : At K C W s σ H) (ow : Owns C W a) (e2 : H a = some (.lst vs)) : W.Le ⟨upd W.F a (.lst vs), W.hs⟩ ∧ At K C ⟨upd W.F a (.lst vs), W.hs⟩ { s with env := s.env.map fun x => match x with | some (.own xs) => none | x => x } σ H := by
  have le : W.Le ⟨upd W.F a (.lst vs), W.hs⟩ := ⟨fun b u e => by show upd W.F a (.lst vs) b = some u; rw [upd_ne (ne_of_none e ow.f)]; exact e, fun _ _ e => e⟩
  have noown : ∀ {j : Nat} {ys : List PV}, (s.env.map fun x => match x with | some (SV.own xs) => none | x => x)[j]? = some (some (.own ys)) → False := fun {j ys} e => by
    rw [List.getElem?_map] at e
    obtain ⟨x, hx, e⟩ := Option.map_eq_some_iff.mp e
    cases x with
    | none => cases e
    | some x => cases x <;> cases e
  refine ⟨le, ⟨⟨fun b u e => ?_, fun n b e => ?_, h.ok.nd, h.ok.len, h.ok.tab.updF ow.f (fun ps z => by rw [e2] at z; cases z)⟩, h.keep, h.pre, fun b hb => ?_, by rw [List.length_map]; exact h.len, fun j d e => ?_, fun j ys e => (noown e).elim, fun j k xs ys b e => (noown e).elim⟩⟩
  · by_cases hb : b = a
    · subst hb
      have e' : upd W.F b (.lst vs) b = some u := e
      rw [upd_same] at e'
      rw [e2]
      exact e'
    · have e' : upd W.F a (.lst vs) b = some u := e
      rw [upd_ne hb] at e'
      exact h.ok.sub b u e'
  · have hb : b ≠ a := fun z => ow.h (z ▸ List.mem_of_getElem? e)
    exact (h.ok.hnd n b e).map (by show upd W.F a (.lst vs) b = _; rw [upd_ne hb]) rfl fun mo g3 => g3.mono le
  · obtain ⟨r1, r2⟩ := h.gro b hb
    exact ⟨by show upd W.F a (.lst vs) b = _; rw [upd_ne (fun z => hb (by rw [z]; exact ow.g))]; exact r1, r2⟩
  · rw [List.getElem?_map] at e
    obtain ⟨x, hx, e⟩ := Option.map_eq_some_iff.mp e
    cases x with
    | none => cases e
    | some x =>
      cases x with
      | val d' =>
        cases e
        obtain ⟨v, e3, r3⟩ := h.val j d hx
        exact ⟨v, e3, r3.mono le⟩
      | own => cases e
theorem At.layT (h : At K C W s σ H) (hp : H p = none) (r : Reps K W vs ds) : ∃ W', W.Le W' ∧ At K C W' s σ (upd H p (.tup vs)) ∧ Rep K W' (.ref p) (.tup ds) := by
  obtain ⟨l, h'⟩ := h.lay hp (.tup vs)
  exact ⟨_, l, h', .tup (SqT.of upd_same) (r.mono l)⟩
theorem At.layL (h : At K C W s σ H) (hp : H p = none) (r : Reps K W vs ds) : ∃ W', W.Le W' ∧ At K C W' s σ (upd H p (.lst vs)) ∧ Rep K W' (.ref p) (.lst ds) := by
  obtain ⟨l, h'⟩ := h.lay hp (.lst vs)
  exact ⟨_, l, h', .lst upd_same (r.mono l)⟩
/-- a value stored in a slot -/
theorem At.set (h : At K C W s σ H) (r : Rep K W v d) (i : Nat) : At K C W { s with env := s.env.set i (some (.val d)) } (σ.set i (some v)) H := by
  refine ⟨h.ok, h.keep, h.pre, h.gro, by rw [List.length_set, List.length_set]; exact h.len, fun j e he => ?_, fun j ys he => ?_, fun j k ys zs a h1 h2 h3 h4 => ?_⟩
  · by_cases hj : i = j
    · subst hj
      have hi : i < s.env.length := by
        have := (List.getElem?_eq_some_iff.mp he).1
        rwa [List.length_set] at this
      rw [List.getElem?_set_self hi] at he
      cases he
      exact ⟨v, List.getElem?_set_self (by rw [h.len]; exact hi), r⟩
    · rw [List.getElem?_set_ne hj] at he
      rw [List.getElem?_set_ne hj]
      exact h.val j e he
  · by_cases hj : i = j
    · subst hj
      have hi : i < s.env.length := by
        have := (List.getElem?_eq_some_iff.mp he).1
        rwa [List.length_set] at this
      rw [List.getElem?_set_self hi] at he
      cases he
    · rw [List.getElem?_set_ne hj] at he
      rw [List.getElem?_set_ne hj]
      exact h.own j ys he
  · have ne : ∀ {m : Nat} {ws : List PV}, (s.env.set i (some (.val d)))[m]? = some (some (.own ws)) → i ≠ m := fun {m ws} he hm => by
      subst hm
      have hi : i < s.env.length := by
        have := (List.getElem?_eq_some_iff.mp he).1
        rwa [List.length_set] at this
      rw [List.getElem?_set_self hi] at he
      cases he
    have n1 := ne h1
    have n2 := ne h2
    rw [List.getElem?_set_ne n1] at h1 h3
    rw [List.getElem?_set_ne n2] at h2 h4
    exact h.dst j k ys zs a h1 h2 h3 h4
/-- a new list stored in a slot: the slot owns it -/
theorem At.setO (h : At K C W s σ H) (hp : H p = none) (r : Reps K W vs ds) (i : Nat) : At K C W { s with env := s.env.set i (some (.own ds)) } (σ.set i (some (.ref p))) (upd H p (.lst vs)) := by
  obtain ⟨f1, f2, f3⟩ := h.fresh hp
  have old : ∀ {j : Nat} {ys : List PV}, s.env[j]? = some (some (.own ys)) → σ[j]? = some (some (.ref p)) → False := fun {j ys} e z => by
    obtain ⟨b, ws, e1, _, e2, _⟩ := h.own j ys e
    rw [z] at e1
    cases e1
    rw [hp] at e2
    cases e2
  refine ⟨⟨fun b u e => ?_, fun n b e => ?_, h.ok.nd, h.ok.len, h.ok.tab.upd (no_tbl0 hp)⟩, fun b u e hb => ?_, h.pre, h.gro, by rw [List.length_set, List.length_set]; exact h.len, fun j e he => ?_, fun j ys he => ?_, fun j k ys zs a h1 h2 h3 h4 => ?_⟩
  · rw [upd_ne (ne_of_none e f1)]
    exact h.ok.sub b u e
  · exact (h.ok.hnd n b e).map rfl rfl fun mo g3 => g3.other fun z => f2 (z ▸ List.mem_of_getElem? e)
  · rw [upd_ne (fun z => by rw [z, f3] at e; cases e)]
    exact h.keep b u e hb
  · by_cases hj : i = j
    · subst hj
      have hi : i < s.env.length := by
        have := (List.getElem?_eq_some_iff.mp he).1
        rwa [List.length_set] at this
      rw [List.getElem?_set_self hi] at he
      cases he
    · rw [List.getElem?_set_ne hj] at he
      rw [List.getElem?_set_ne hj]
      exact h.val j e he
  · by_cases hj : i = j
    · subst hj
      have hi : i < s.env.length := by
        have := (List.getElem?_eq_some_iff.mp he).1
        rwa [List.length_set] at this
      rw [List.getElem?_set_self hi] at he
      cases he
      exact ⟨p, vs, List.getElem?_set_self (by rw [h.len]; exact hi), ⟨f1, f2, f3⟩, upd_same, r⟩
    · rw [List.getElem?_set_ne hj] at he
      rw [List.getElem?_set_ne hj]
      obtain ⟨b, ws, e1, ow, e2, r2⟩ := h.own j ys he
      exact ⟨b, ws, e1, ow, by rw [upd_ne (ne_of_none e2 hp)]; exact e2, r2⟩
  · have hi : i < s.env.length ∨ ¬ i < s.env.length := Nat.lt_or_ge _ _ |>.imp id (fun z => by omega)
    by_cases hj : i = j
    · by_cases hk : i = k
      · exact hj.symm.trans hk
      · subst hj
        have hil : i < s.env.length := by
          have := (List.getElem?_eq_some_iff.mp h1).1
          rwa [List.length_set] at this
        rw [List.getElem?_set_self (by rw [h.len]; exact hil)] at h3
        cases h3
        rw [List.getElem?_set_ne hk] at h2 h4
        exact (old h2 h4).elim
    · by_cases hk : i = k
      · subst hk
        have hil : i < s.env.length := by
          have := (List.getElem?_eq_some_iff.mp h2).1
          rwa [List.length_set] at this
        rw [List.getElem?_set_self (by rw [h.len]; exact hil)] at h4
        cases h4
        rw [List.getElem?_set_ne hj] at h1 h3
        exact (old h1 h3).elim
      · rw [List.getElem?_set_ne hj] at h1 h3
        rw [List.getElem?_set_ne hk] at h2 h4
        exact h.dst j k ys zs a h1 h2 h3 h4
/-- an owned list frozen where it stands -/
theorem At.freeze (h : At K C W s σ H) (he : s.env[i]? = some (some (.own xs))) : ∃ W' a, σ[i]? = some (some (.ref a)) ∧ W.Le W' ∧ At K C W' { s with env := s.env.set i (some (.val (.lst xs))) } σ H ∧ Rep K W' (.ref a) (.lst xs) := by
  obtain ⟨a, vs, e1, ow, e2, r⟩ := h.own i xs he
  have le : W.Le ⟨upd W.F a (.lst vs), W.hs⟩ := ⟨fun b u e => by show upd W.F a (.lst vs) b = some u; rw [upd_ne (ne_of_none e ow.f)]; exact e, fun _ _ e => e⟩
  have ra : Rep K ⟨upd W.F a (.lst vs), W.hs⟩ (.ref a) (.lst xs) := .lst upd_same (r.mono le)
  have hi : i < s.env.length := (List.getElem?_eq_some_iff.mp he).1
  refine ⟨⟨upd W.F a (.lst vs), W.hs⟩, a, e1, le, ⟨⟨fun b u e => ?_, fun n b e => ?_, h.ok.nd, h.ok.len, h.ok.tab.updF ow.f (fun ps z => by rw [e2] at z; cases z)⟩, h.keep, h.pre, fun b hb => ?_, by rw [List.length_set]; exact h.len, fun j e hj => ?_, fun j ys hj => ?_, fun j k ys zs b h1 h2 h3 h4 => ?_⟩, ra⟩
  · by_cases hb : b = a
    · subst hb
      have e' : upd W.F b (.lst vs) b = some u := e
      rw [upd_same] at e'
      rw [e2]
      exact e'
    · have e' : upd W.F a (.lst vs) b = some u := e
      rw [upd_ne hb] at e'
      exact h.ok.sub b u e'
  · have hb : b ≠ a := fun z => ow.h (z ▸ List.mem_of_getElem? e)
    exact (h.ok.hnd n b e).map (by show upd W.F a (.lst vs) b = _; rw [upd_ne hb]) rfl fun mo g3 => g3.mono le
  · obtain ⟨r1, r2⟩ := h.gro b hb
    exact ⟨by show upd W.F a (.lst vs) b = _; rw [upd_ne (fun z => hb (by rw [z]; exact ow.g))]; exact r1, r2⟩
  · by_cases hij : i = j
    · subst hij
      rw [List.getElem?_set_self hi] at hj
      cases hj
      exact ⟨.ref a, e1, ra⟩
    · rw [List.getElem?_set_ne hij] at hj
      obtain ⟨v, e3, r3⟩ := h.val j e hj
      exact ⟨v, e3, r3.mono le⟩
  · have hij : i ≠ j := fun z => by
      subst z
      rw [List.getElem?_set_self hi] at hj
      cases hj
    rw [List.getElem?_set_ne hij] at hj
    obtain ⟨b, ws, e3, ow3, e4, r4⟩ := h.own j ys hj
    have hb : b ≠ a := fun z => by
      subst z
      exact hij (h.dst i j xs ys b he hj e1 e3)
    exact ⟨b, ws, e3, ⟨by show upd W.F a (.lst vs) b = _; rw [upd_ne hb]; exact ow3.f, ow3.h, ow3.g⟩, e4, r4.mono le⟩
  · have ne : ∀ {m : Nat} {ws : List PV}, (s.env.set i (some (.val (.lst xs))))[m]? = some (some (.own ws)) → i ≠ m := fun {m ws} e z => by
      subst z
      rw [List.getElem?_set_self hi] at e
      cases e
    have n1 := ne h1
    have n2 := ne h2
    rw [List.getElem?_set_ne n1] at h1
    rw [List.getElem?_set_ne n2] at h2
    exact h.dst j k ys zs b h1 h2 h3 h4
/-- an owned list changed -/
theorem At.change (h : At K C W s σ H) (he : s.env[i]? = some (some (.own xs))) (hσ : σ[i]? = some (some (.ref a))) (r : Reps K W vs ds) : At K C W { s with env := s.env.set i (some (.own ds)) } σ (upd H a (.lst vs)) := by
  obtain ⟨a', vs', e1, ow, e2, _⟩ := h.own i xs he
  rw [hσ] at e1
  cases e1
  have hi : i < s.env.length := (List.getElem?_eq_some_iff.mp he).1
  refine ⟨⟨fun b u e => ?_, fun n b e => ?_, h.ok.nd, h.ok.len, h.ok.tab.upd (fun ps z => by rw [e2] at z; cases z)⟩, fun b u e hb => ?_, h.pre, h.gro, by rw [List.length_set]; exact h.len, fun j e hj => ?_, fun j ys hj => ?_, fun j k ys zs b h1 h2 h3 h4 => ?_⟩
  · rw [upd_ne (ne_of_none e ow.f)]
    exact h.ok.sub b u e
  · exact (h.ok.hnd n b e).map rfl rfl fun mo g3 => g3.other fun z => ow.h (z ▸ List.mem_of_getElem? e)
  · rw [upd_ne (fun z => by rw [z, ow.g] at e; cases e)]
    exact h.keep b u e hb
  · have hij : i ≠ j := fun z => by
      subst z
      rw [List.getElem?_set_self hi] at hj
      cases hj
    rw [List.getElem?_set_ne hij] at hj
    exact h.val j e hj
  · by_cases hij : i = j
    · subst hij
      rw [List.getElem?_set_self hi] at hj
      cases hj
      exact ⟨a, vs, hσ, ow, upd_same, r⟩
    · rw [List.getElem?_set_ne hij] at hj
      obtain ⟨b, ws, e3, ow3, e4, r4⟩ := h.own j ys hj
      have hb : b ≠ a := fun z => by
        subst z
        exact hij (h.dst i j xs ys b he hj hσ e3)
      exact ⟨b, ws, e3, ow3, by rw [upd_ne hb]; exact e4, r4⟩
  · have old : ∀ {m : Nat} {ws : List PV}, (s.env.set i (some (.own ds)))[m]? = some (some (.own ws)) → ∃ ws', s.env[m]? = some (some (.own ws')) := fun {m ws} e => by
      by_cases z : i = m
      · subst z; exact ⟨xs, he⟩
      · rw [List.getElem?_set_ne z] at e
        exact ⟨ws, e⟩
    obtain ⟨y1, g1⟩ := old h1
    obtain ⟨y2, g2⟩ := old h2
    exact h.dst j k y1 y2 b g1 g2 h3 h4
end
end Dn
/-! Den2: expressions. -/
namespace Dn
open PySem L2
/-- a value that may be read where one stands -/
inductive RdV (K : PySem.W.Frag) (W : Vw) (H : Hp) : V → PV → Prop
  | rep {v : V} {d : PV} : Rep K W v d → RdV K W H v d
  | own {a : Addr} {vs : List V} {xs : List PV} : H a = some (.lst vs) → Reps K W vs xs → RdV K W H (.ref a) (.lst xs)
section
variable {Y : WX} {K : PySem.W.Frag} {C : Ctx} {W W' : Vw} {σ : L2.St} {H : Hp} {s : S} {v w : V} {d : PV}
theorem RdV.int {i : Int} (h : RdV K W H v (.int i)) : v = .int i := by
  cases h with
  | rep h => cases h; rfl
theorem RdV.str {i : Str} (h : RdV K W H v (.str i)) : v = .str i := by
  cases h with
  | rep h => cases h; rfl
theorem RdV.bl {i : Bool} (h : RdV K W H v (.bl i)) : v = .bl i := by
  cases h with
  | rep h => cases h; rfl
theorem RdV.non (h : RdV K W H v .non) : v = .non := by
  cases h with
  | rep h => cases h; rfl
theorem RdV.tup {ds : List PV} (e : Same W.F H) (h : RdV K W H v (.tup ds)) : ∃ a vs, v = .ref a ∧ SqT K W.F a vs ∧ SqT K H a vs ∧ Reps K W vs ds := by
  cases h with
  | rep h => cases h with
    | tup h r => exact ⟨_, _, rfl, h, same_t e h, r⟩
theorem RdV.lst {ds : List PV} (e : Same W.F H) (h : RdV K W H v (.lst ds)) : ∃ a vs, v = .ref a ∧ H a = some (.lst vs) ∧ Reps K W vs ds := by
  cases h with
  | rep h => cases h with
    | lst h r => exact ⟨_, _, rfl, e _ _ h, r⟩
  | own h r => exact ⟨_, _, rfl, h, r⟩
theorem RdV.scr {ns : List Int} (e : Same W.F H) (h : RdV K W H v (.scr ns)) : ∃ a, v = .ref a ∧ SqL K H a (ns.map V.int) := by
  cases h with
  | rep h => cases h with
    | scr h => exact ⟨_, rfl, e.seq h⟩
theorem RdV.hnd {n : Nat} (h : RdV K W H v (.hnd n)) : ∃ a, v = .ref a ∧ W.hs[n]? = some a := by
  cases h with
  | rep h => cases h with
    | hnd h => exact ⟨_, rfl, h⟩
/-! ### as the library's data -/
mutual
def PV.toD : PV → Option PyData
  | .non => some .none
  | .bl b => some (.bool b)
  | .int i => some (.int i)
  | .str x => some (.str x)
  | .tup xs => (PV.toDs xs).map .tuple
  | .lst xs => (PV.toDs xs).map .list
  | .scr ns => some (.list (ns.map .int))
  | .hnd _ => none
  | .obj _ _ _ => none
  | .exn _ _ _ => none
  | .dic _ => none
  | .dct _ _ => none
  | .kt _ => none
  | .fn _ _ _ _ _ => none
def PV.toDs : List PV → Option (List PyData)
  | [] => some []
  | x :: xs => match PV.toD x, PV.toDs xs with
    | some d, some ds => some (d :: ds)
    | _, _ => none
end
theorem dp_ints (H : Hp) : ∀ ns : List Int, DpAll K H (ns.map V.int) (ns.map PyData.int)
  | [] => .nil
  | n :: ns => .cons (.int n) (dp_ints H ns)
mutual
theorem dp_of (e : Same W.F H) : ∀ {v : V} {d : PV} {x : PyData}, Rep K W v d → d.toD = some x → Dp K H v x
  | _, _, _, .non, h => by cases h; exact .non
  | _, _, _, .bl b, h => by cases h; exact .bl b
  | _, _, _, .int i, h => by cases h; exact .int i
  | _, _, _, .str i, h => by cases h; exact .str i
  | _, .tup ds, x, .tup hq r, h => by
    have h : (PV.toDs ds).map PyData.tuple = some x := by rw [← h, PV.toD]
    obtain ⟨ys, e1, rfl⟩ := Option.map_eq_some_iff.mp h
    exact .tup (same_t e hq) (dps_of e r e1)
  | _, .lst ds, x, .lst hq r, h => by
    have h : (PV.toDs ds).map PyData.list = some x := by rw [← h, PV.toD]
    obtain ⟨ys, e1, rfl⟩ := Option.map_eq_some_iff.mp h
    exact .lst (SqL.of (e _ _ hq)) (dps_of e r e1)
  | _, .scr ns, x, .scr hq, h => by
    have h : some (PyData.list (ns.map .int)) = some x := by rw [← h, PV.toD]
    cases h
    exact .lst (e.seq hq) (dp_ints H ns)
  | _, .hnd n, x, .hnd hq, h => by
    have h : none = some x := by rw [← h, PV.toD]
    cases h
  | _, .obj c ks us, x, .obj .., h => by
    have h : none = some x := by rw [← h, PV.toD]
    cases h
  | _, .exn c ks us, x, .exn .., h => by
    have h : none = some x := by rw [← h, PV.toD]
    cases h
  | _, .dic us, x, .dic .., h => by
    have h : none = some x := by rw [← h, PV.toD]
    cases h
  | _, .dct ks us, x, .dct .., h => by
    have h : none = some x := by rw [← h, PV.toD]
    cases h
  | _, .kt ks, x, .kt .., h => by
    have h : none = some x := by rw [← h, PV.toD]
    cases h
theorem dps_of (e : Same W.F H) : ∀ {vs : List V} {ds : List PV} {xs : List PyData}, Reps K W vs ds → PV.toDs ds = some xs → DpAll K H vs xs
  | _, _, _, .nil, h => by
    rw [PV.toDs] at h
    cases h
    exact .nil
  | _, d :: ds, xs, .cons hq r, h => by
    rw [PV.toDs] at h
    split at h
    · rename_i y ys e1 e2
      cases h
      exact .cons (dp_of e hq e1) (dps_of e r e2)
    · cases h
end
theorem RdV.dp {x : PyData} (e : Same W.F H) (h : RdV K W H v d) (hd : d.toD = some x) : Dp K H v x := by
  cases h with
  | rep h => exact dp_of e h hd
  | @own a vs xs h r =>
    have hd : (PV.toDs xs).map PyData.list = some x := by rw [← hd, PV.toD]
    obtain ⟨ys, e1, rfl⟩ := Option.map_eq_some_iff.mp hd
    exact .lst (SqL.of h) (dps_of e r e1)
theorem Pst.lft' {α : Type} {o : Option α} {Q : α → S → Vw → Hp → Prop} (h : Pst K C W σ (Dn.lft o s) Q) : ∃ a, o = some a ∧ ∀ W' H', W.Le W' → At K C W' s σ H' → Q a s W' H' := by
  unfold Dn.lft at h
  cases o with
  | none => exact h.elim
  | some a => exact ⟨a, rfl, h⟩
end
/-! ### names -/
def SV.pv : SV → PV
  | .val d => d
  | .own xs => .lst xs
/-- a name read: what it owns is frozen -/
def var (i : Nat) : M PV := fun s => match s.env[i]? with
  | some (some (.val d)) => .ok d s
  | some (some (.own xs)) => .ok (.lst xs) { s with env := s.env.set i (some (.val (.lst xs))) }
  | _ => .stk
section
variable {Y : WX} {K : PySem.W.Frag} {C : Ctx} {W W' : Vw} {σ : L2.St} {H : Hp} {s : S} {v w : V} {d : PV} {Q : VK} {i : Nat} {ca cb : M PV}
theorem den_var (h : den K Y (var i) σ H Q) : tVar i σ H Q := by
  obtain ⟨C, W, s, at', p⟩ := h
  unfold var at p
  split at p
  · rename_i d e
    obtain ⟨v, e1, r⟩ := at'.val i d e
    exact ⟨v, e1, p W H (Vw.Le.refl W) at' v r⟩
  · rename_i xs e
    obtain ⟨W', a, e1, l, at2, r⟩ := at'.freeze e
    exact ⟨.ref a, e1, p W' H l at2 _ r⟩
  · exact p.elim
theorem At.look {sv : SV} (h : At K C W s σ H) (e : s.env[i]? = some (some sv)) : ∃ v, σ[i]? = some (some v) ∧ RdV K W H v sv.pv := by
  cases sv with
  | val d =>
    obtain ⟨v, e1, r⟩ := h.val i d e
    exact ⟨v, e1, .rep r⟩
  | own xs =>
    obtain ⟨a, vs, e1, ow, e2, r⟩ := h.own i xs e
    exact ⟨_, e1, .own e2 r⟩
theorem den_ret (h : den K Y (ret d) σ H Q) (r : ∀ W, Rep K W v d) : tC v σ H Q := by
  obtain ⟨C, W, s, at', p⟩ := h
  exact p W H (Vw.Le.refl W) at' v (r W)
/-! ### operators -/
abbrev WantV (K : PySem.W.Frag) (Q : VK) : PV → S → Vw → Hp → Prop := fun d _ W' H' => ∀ v, Rep K W' v d → Q v H'
abbrev WantL (K : PySem.W.Frag) (Q : VK) : List PV → S → Vw → Hp → Prop := fun ds _ W' H' => ∀ p vs, H' p = none → Reps K W' vs ds → Q (.ref p) (upd H' p (.lst vs))
def bin (ca cb : M PV) (op : PV → PV → M PV) : M PV := bnd ca fun a => bnd cb fun b => op a b
def Bin (r : R2) (K : PySem.W.Frag) (op : PV → PV → M PV) : Prop := ∀ (C : Ctx) (W : Vw) (s : S) (σ : L2.St) (H : Hp) (v w : V) (a b : PV) (Q : VK), At K C W s σ H → RdV K W H v a → RdV K W H w b → Pst K C W σ (op a b s) (WantV K Q) → r v w H Q
theorem den_bin {r : R2} {op : PV → PV → M PV} (hb : Bin r K op) (h : den K Y (bin ca cb op) σ H Q) : tOp r (den K Y ca) (den K Y cb) σ H Q := by
  obtain ⟨C, W, s, at', p⟩ := h
  refine ⟨C, W, s, at', (Pst.bnd p).imp fun a s1 W1 H1 l1 at1 p1 v rv => ⟨C, W1, s1, at1, (Pst.bnd p1).imp fun b s2 W2 H2 l2 at2 p2 w rw' => ?_⟩⟩
  exact hb _ W2 s2 σ H2 v w a b Q at2 (.rep (rv.mono l2)) (.rep rw') p2
/-! ### arithmetic -/
instance (i j : Int) : Decidable (CDivW i j) := inferInstanceAs (Decidable (_ ∧ _))
instance (i j : Int) : Decidable (CMulW i j) := inferInstanceAs (Decidable (_ < _))
instance (i j : Int) : Decidable (CPow i j) := inferInstanceAs (Decidable (_ ∧ _ ∧ _))
def addP : PV → PV → Option PV
  | .int a, .int b => some (.int (a + b))
  | .str a, .str b => if a.length + b.length ≤ sizeLine then some (.str (a ++ b)) else none
  | .tup a, .tup b => if a.length + b.length ≤ sizeLine then some (.tup (a ++ b)) else none
  | .lst a, .lst b => if a.length + b.length ≤ sizeLine then some (.lst (a ++ b)) else none
  | _, _ => none
def subP : PV → PV → Option PV
  | .int a, .int b => some (.int (a - b))
  | _, _ => none
def mulP : PV → PV → Option PV
  | .int a, .int b => if CMulW a b then some (.int (a * b)) else none
  | .lst a, .int k => if (-(2 ^ 63) ≤ k ∧ k < 2 ^ 63) ∧ a.length * k.toNat ≤ sizeLine then some (.lst (List.replicate k.toNat a).flatten) else none
  | _, _ => none
def fdivP : PV → PV → Option PV
  | .int a, .int b => if CDivW a b then some (.int (a / b)) else none
  | _, _ => none
def modP : PV → PV → Option PV
  | .int a, .int b => if 0 < b then some (.int (a % b)) else none
  | _, _ => none
def powP : PV → PV → Option PV
  | .int a, .int b => if CPow a b then some (.int (a ^ b.toNat)) else none
  | _, _ => none
def rOr (r q : R2) : R2 := fun x y H Q => r x y H Q ∨ q x y H Q
theorem op_or2 {X : Cx} {f : Value → Value → Sem Value} {r q : R2} (h : OpR X f r) (k : OpR X f q) : OpR X f (rOr r q) := by
  intro pins s σ H x y v u Q I rx ry h'
  rcases h' with h' | h'
  · exact h pins s σ H x y v u Q I rx ry h'
  · exact k pins s σ H x y v u Q I rx ry h'
abbrev rStr2 : R2 := fun x y H Q => ∃ i j, x = .str i ∧ y = .str j ∧ i.length + j.length ≤ sizeLine ∧ Q (.str (i ++ j)) H
def rAddU (K : PySem.W.Frag) : R2 := rOr (rOr (rI0 fun i j => .int (i + j)) rStr2) (rOr (rCatA K) rCat)
theorem op_addU {X : Cx} : OpR X (binaryOp .Add) (rAddU X.K) := op_or2 (op_or2 op_add op_add_str) (op_or2 op_catA op_cat)
theorem bin_add : Bin (rAddU K) K (fun a b => lft (addP a b)) := by
  intro C W s σ H v w a b Q at' ra rb p
  obtain ⟨d, e, q⟩ := p.lft'
  have q0 := q W H (Vw.Le.refl W) at'
  unfold addP at e
  split at e
  · cases e
    cases ra.int
    cases rb.int
    exact .inl (.inl ⟨_, _, rfl, rfl, q0 _ (.int _)⟩)
  · split at e
    · cases e
      cases ra.str
      cases rb.str
      exact .inl (.inr ⟨_, _, rfl, rfl, by assumption, q0 _ (.str _)⟩)
    · cases e
  · split at e
    · rename_i hl
      cases e
      obtain ⟨x, vs, rfl, hx, hx2, rx⟩ := ra.tup at'.ok.sub
      obtain ⟨y, ws, rfl, hy, hy2, ry⟩ := rb.tup at'.ok.sub
      refine .inr (.inl ⟨x, y, vs, ws, rfl, rfl, hx2, hy2, by rw [rx.length, ry.length]; exact hl, fun e1 => ?_, fun _ e1 => ?_, fun _ _ p hp => ?_⟩)
      · subst e1
        cases rx
        exact q0 _ (.tup hy ry)
      · subst e1
        cases ry
        rw [List.append_nil] at q0
        exact q0 _ (.tup hx rx)
      · obtain ⟨W', l, at2, r2⟩ := at'.layT hp (rx.append ry)
        exact q W' _ l at2 _ r2
    · cases e
  · split at e
    · rename_i hl
      cases e
      obtain ⟨x, vs, rfl, hx, rx⟩ := ra.lst at'.ok.sub
      obtain ⟨y, ws, rfl, hy, ry⟩ := rb.lst at'.ok.sub
      refine .inr (.inr ⟨x, y, vs, ws, rfl, rfl, hx, hy, by rw [rx.length, ry.length]; exact hl, fun p hp => ?_⟩)
      obtain ⟨W', l, at2, r2⟩ := at'.layL hp (rx.append ry)
      exact q W' _ l at2 _ r2
    · cases e
  · cases e
theorem bin_sub : Bin (rI0 fun i j => .int (i - j)) K (fun a b => lft (subP a b)) := by
  intro C W s σ H v w a b Q at' ra rb p
  obtain ⟨d, e, q⟩ := p.lft'
  have q0 := q W H (Vw.Le.refl W) at'
  unfold subP at e
  split at e
  · cases e
    cases ra.int
    cases rb.int
    exact ⟨_, _, rfl, rfl, q0 _ (.int _)⟩
  · cases e
theorem bin_mul : Bin (rOr (rI CMulW fun i j => .int (i * j)) rRep) K (fun a b => lft (mulP a b)) := by
  intro C W s σ H v w a b Q at' ra rb p
  obtain ⟨d, e, q⟩ := p.lft'
  have q0 := q W H (Vw.Le.refl W) at'
  unfold mulP at e
  split at e
  · split at e
    · cases e
      cases ra.int
      cases rb.int
      exact .inl ⟨_, _, rfl, rfl, by assumption, q0 _ (.int _)⟩
    · cases e
  · split at e
    · rename_i hl
      cases e
      obtain ⟨x, vs, rfl, hx, rx⟩ := ra.lst at'.ok.sub
      cases rb.int
      refine .inr ⟨x, _, vs, rfl, rfl, hx, hl.1.1, hl.1.2, by rw [rx.length]; exact hl.2, fun p hp => ?_⟩
      obtain ⟨W', l, at2, r2⟩ := at'.layL hp (rx.rep _)
      exact q W' _ l at2 _ r2
    · cases e
  · cases e
theorem bin_fdiv : Bin (rI CDivW fun i j => .int (i / j)) K (fun a b => lft (fdivP a b)) := by
  intro C W s σ H v w a b Q at' ra rb p
  obtain ⟨d, e, q⟩ := p.lft'
  have q0 := q W H (Vw.Le.refl W) at'
  unfold fdivP at e
  split at e
  · split at e
    · cases e
      cases ra.int
      cases rb.int
      exact ⟨_, _, rfl, rfl, by assumption, q0 _ (.int _)⟩
    · cases e
  · cases e
theorem bin_mod : Bin (rI (fun _ j => 0 < j) fun i j => .int (i % j)) K (fun a b => lft (modP a b)) := by
  intro C W s σ H v w a b Q at' ra rb p
  obtain ⟨d, e, q⟩ := p.lft'
  have q0 := q W H (Vw.Le.refl W) at'
  unfold modP at e
  split at e
  · split at e
    · cases e
      cases ra.int
      cases rb.int
      exact ⟨_, _, rfl, rfl, by assumption, q0 _ (.int _)⟩
    · cases e
  · cases e
theorem bin_pow : Bin (rI CPow fun i j => .int (i ^ j.toNat)) K (fun a b => lft (powP a b)) := by
  intro C W s σ H v w a b Q at' ra rb p
  obtain ⟨d, e, q⟩ := p.lft'
  have q0 := q W H (Vw.Le.refl W) at'
  unfold powP at e
  split at e
  · split at e
    · cases e
      cases ra.int
      cases rb.int
      exact ⟨_, _, rfl, rfl, by assumption, q0 _ (.int _)⟩
    · cases e
  · cases e
/-! ### comparisons -/
def ordP (f : Int → Int → Bool) : PV → PV → Option PV
  | .int a, .int b => some (.bl (f a b))
  | _, _ => none
theorem bin_ord {f : Int → Int → Bool} : Bin (rI0 fun i j => .bl (f i j)) K (fun a b => lft (ordP f a b)) := by
  intro C W s σ H v w a b Q at' ra rb p
  obtain ⟨d, e, q⟩ := p.lft'
  have q0 := q W H (Vw.Le.refl W) at'
  unfold ordP at e
  split at e
  · cases e
    cases ra.int
    cases rb.int
    exact ⟨_, _, rfl, rfl, q0 _ (.bl _)⟩
  · cases e
def eqP (neg : Bool) (a b : PV) : Option PV := match a, b with
  | .str x, .str y => some (.bl (if neg then !(x == y) else x == y))
  | a, b => match a.toD, b.toD with
    | some x, some y => if SeqAt.shaped x = true ∧ SeqAt.shaped y = true then some (.bl (if neg then !PyData.eqv x y else PyData.eqv x y)) else none
    | _, _ => none
theorem bin_eq : Bin (rOr rEq (rEqD K)) K (fun a b => lft (eqP false a b)) := by
  intro C W s σ H v w a b Q at' ra rb p
  obtain ⟨d, e, q⟩ := p.lft'
  have q0 := q W H (Vw.Le.refl W) at'
  unfold eqP at e
  split at e
  · cases e
    cases ra.str
    cases rb.str
    exact .inl ⟨rfl, by rw [dec_str]; exact q0 _ (.bl _)⟩
  · split at e
    · rename_i x y hx hy
      split at e
      · rename_i hs
        cases e
        exact .inr ⟨x, y, ra.dp at'.ok.sub hx, rb.dp at'.ok.sub hy, hs.1, hs.2, q0 _ (.bl _)⟩
      · cases e
    · cases e
theorem bin_ne : Bin (rOr rNe (rNeD K)) K (fun a b => lft (eqP true a b)) := by
  intro C W s σ H v w a b Q at' ra rb p
  obtain ⟨d, e, q⟩ := p.lft'
  have q0 := q W H (Vw.Le.refl W) at'
  unfold eqP at e
  split at e
  · cases e
    cases ra.str
    cases rb.str
    exact .inl ⟨rfl, by rw [dec_str]; exact q0 _ (.bl _)⟩
  · split at e
    · rename_i x y hx hy
      split at e
      · rename_i hs
        cases e
        exact .inr ⟨x, y, ra.dp at'.ok.sub hx, rb.dp at'.ok.sub hy, hs.1, hs.2, q0 _ (.bl _)⟩
      · cases e
    · cases e
/-- a text among texts; data in a list of data -/
def strsOf : List PV → Option (List Str)
  | [] => some []
  | .str x :: r => (strsOf r).map (x :: ·)
  | _ :: _ => none
theorem strsOf_ok : ∀ {ds : List PV} {xs : List Str}, strsOf ds = some xs → ds = xs.map PV.str
  | [], xs, h => by cases h; rfl
  | .str x :: r, xs, h => by
    have h : (strsOf r).map (x :: ·) = some xs := h
    obtain ⟨ys, e, rfl⟩ := Option.map_eq_some_iff.mp h
    rw [strsOf_ok e]
    rfl
  | .non :: _, _, h => by cases h
  | .bl _ :: _, _, h => by cases h
  | .int _ :: _, _, h => by cases h
  | .tup _ :: _, _, h => by cases h
  | .lst _ :: _, _, h => by cases h
  | .scr _ :: _, _, h => by cases h
  | .hnd _ :: _, _, h => by cases h
  | .obj .. :: _, _, h => by cases h
  | .exn .. :: _, _, h => by cases h
  | .dic .. :: _, _, h => by cases h
  | .dct .. :: _, _, h => by cases h
  | .kt .. :: _, _, h => by cases h
theorem strsOf_map (xs : List Str) : strsOf (xs.map PV.str) = some xs := by
  induction xs with
  | nil => rfl
  | cons x r ih => show (strsOf (r.map PV.str)).map (x :: ·) = _; rw [ih]; rfl
theorem inV_strs (x : Str) (xs : List Str) : inV (.str x) (xs.map V.str) = decide (x ∈ xs) := by
  unfold inV
  rw [List.any_map]
  rw [Bool.eq_iff_iff, List.any_eq_true, decide_eq_true_eq]
  constructor
  · rintro ⟨y, hy, e⟩
    have e : (y == x) = true := e
    rw [← eq_of_beq e]
    exact hy
  · intro h
    exact ⟨x, h, by show (x == x) = true; exact beq_self_eq_true x⟩
theorem flat_strs (xs : List Str) : (xs.map V.str).all flatV = true := by
  rw [List.all_map, List.all_eq_true]
  intro x _
  rfl
def inP (neg : Bool) (a b : PV) : Option PV := match a, b with
  | .str ⟨⟨[c]⟩⟩, .str z => some (.bl (if neg then !decide (c ∈ z.cps.toList) else decide (c ∈ z.cps.toList)))
  | .str x, .tup ys => (strsOf ys).map fun xs => .bl (if neg then !decide (x ∈ xs) else decide (x ∈ xs))
  | a, .lst ys => match a.toD, PV.toDs ys with
    | some d, some ds => if SeqAt.shaped d = true ∧ SeqAt.shaped (.list ds) = true then some (.bl (if neg then !ds.any fun z => PyData.eqv z d else ds.any fun z => PyData.eqv z d)) else none
    | _, _ => none
  | _, _ => none
theorem bin_in : Bin (rOr (rOr (rIn K false) (rInD K)) (fun x y H Q => ∃ (c : Nat) (z : Str), x = .str ⟨#[c]⟩ ∧ y = .str z ∧ Q (.bl (decide (c ∈ z.cps.toList))) H)) K (fun a b => lft (inP false a b)) := by
  intro C W s σ H v w a b Q at' ra rb p
  obtain ⟨d, e, q⟩ := p.lft'
  have q0 := q W H (Vw.Le.refl W) at'
  unfold inP at e
  split at e
  · cases e
    cases ra.str
    cases rb.str
    exact .inr ⟨_, _, rfl, rfl, q0 _ (.bl _)⟩
  · rename_i x ys
    obtain ⟨xs, e1, rfl⟩ := Option.map_eq_some_iff.mp e
    cases ra.str
    obtain ⟨y, ws, rfl, hy, hy2, ry⟩ := rb.tup at'.ok.sub
    have ew := strsOf_ok e1
    subst ew
    have ew := ry.of_strs
    subst ew
    exact .inl (.inl ⟨y, _, rfl, .inr hy2, rfl, flat_strs xs, by rw [inV_strs]; exact q0 _ (.bl _)⟩)
  · rename_i ys _ _
    split at e
    · rename_i d' ds hd hds
      split at e
      · rename_i hs
        cases e
        exact .inl (.inr ⟨d', ds, ra.dp at'.ok.sub hd, rb.dp at'.ok.sub (by rw [PV.toD, hds]; rfl), hs.1, hs.2, q0 _ (.bl _)⟩)
      · cases e
    · cases e
  · cases e
/-! ### subscripts -/
def ixP : PV → PV → Option PV
  | .lst xs, .int i => atI xs i
  | .tup xs, .int i => atI xs i
  | .str x, .int i => if x.length ≤ sizeLine then (atI x.cps.toList i).map fun c => .str ⟨#[c]⟩ else none
  | _, _ => none
theorem atI_rep {vs : List V} {ds : List PV} {i : Int} {d : PV} (r : Reps K W vs ds) (h : atI ds i = some d) : ∃ v, atI vs i = some v ∧ Rep K W v d := by
  unfold atI at h ⊢
  rw [r.length]
  obtain ⟨j, e, h⟩ := Option.bind_eq_some_iff.mp h
  obtain ⟨v, e2, r2⟩ := r.get h
  exact ⟨v, by rw [e]; exact e2, r2⟩
theorem bin_ix : Bin (rIx K) K (fun a b => lft (ixP a b)) := by
  intro C W s σ H v w a b Q at' ra rb p
  obtain ⟨d, e, q⟩ := p.lft'
  have q0 := q W H (Vw.Le.refl W) at'
  unfold ixP at e
  split at e
  · cases rb.int
    obtain ⟨x, vs, rfl, hx, rx⟩ := ra.lst at'.ok.sub
    obtain ⟨v, e1, r1⟩ := atI_rep rx e
    exact .inl ⟨x, vs, _, v, rfl, rfl, SqL.of hx, e1, q0 _ r1⟩
  · cases rb.int
    obtain ⟨x, vs, rfl, hx, hx2, rx⟩ := ra.tup at'.ok.sub
    obtain ⟨v, e1, r1⟩ := atI_rep rx e
    exact .inr (.inl ⟨x, vs, _, v, rfl, rfl, hx2, e1, q0 _ r1⟩)
  · split at e
    · cases rb.int
      cases ra.str
      obtain ⟨c, e1, rfl⟩ := Option.map_eq_some_iff.mp e
      exact .inr (.inr ⟨_, _, c, rfl, rfl, by assumption, e1, q0 _ (.str _)⟩)
    · cases e
  · cases e
end
end Dn
/-! Den3: tests, arguments, displays, slices, built-ins, methods, handles. -/
namespace Dn
open PySem L2
section
variable {Y : WX} {K : PySem.W.Frag} {C : Ctx} {W W' : Vw} {σ : L2.St} {H : Hp} {s : S} {v w : V} {d : PV} {Q : VK} {i : Nat} {ca cb : M PV}
/-! ### tests -/
def asB (c : M PV) : M Bool := bnd c fun d => match d with
  | .bl b => ret b
  | _ => stuck
theorem den_asB {QB : Bool → Hp → Prop} (h : denT K Y (asB ca) σ H QB) : den K Y ca σ H (fun x H1 => ∃ c, x = .bl c ∧ QB c H1) := by
  obtain ⟨C, W, s, at', p⟩ := h
  refine ⟨C, W, s, at', (Pst.bnd p).imp fun a s1 W1 H1 l1 at1 p1 v rv => ?_⟩
  cases a <;> try exact p1.elim
  cases rv
  exact ⟨_, rfl, p1 W1 H1 (Vw.Le.refl _) at1⟩
def andT (a b : M Bool) : M Bool := bnd a fun x => if x = true then b else ret false
def orT (a b : M Bool) : M Bool := bnd a fun x => if x = true then ret true else b
def notT (a : M Bool) : M Bool := bnd a fun x => ret (!x)
def iteT (t : M Bool) (a b : M PV) : M PV := bnd t fun x => if x = true then a else b
theorem den_and {a b : M Bool} {QB : Bool → Hp → Prop} (h : denT K Y (andT a b) σ H QB) : tAnd (denT K Y a) (denT K Y b) σ H QB := by
  obtain ⟨C, W, s, at', p⟩ := h
  refine ⟨C, W, s, at', (Pst.bnd p).imp fun x s1 W1 H1 l1 at1 p1 => ?_⟩
  cases x with
  | true => exact ⟨C, W1, s1, at1, p1⟩
  | false => exact p1 W1 H1 (Vw.Le.refl _) at1
theorem den_or {a b : M Bool} {QB : Bool → Hp → Prop} (h : denT K Y (orT a b) σ H QB) : tOr (denT K Y a) (denT K Y b) σ H QB := by
  obtain ⟨C, W, s, at', p⟩ := h
  refine ⟨C, W, s, at', (Pst.bnd p).imp fun x s1 W1 H1 l1 at1 p1 => ?_⟩
  cases x with
  | false => exact ⟨C, W1, s1, at1, p1⟩
  | true => exact p1 W1 H1 (Vw.Le.refl _) at1
theorem den_not {a : M Bool} {QB : Bool → Hp → Prop} (h : denT K Y (notT a) σ H QB) : tNot (denT K Y a) σ H QB := by
  obtain ⟨C, W, s, at', p⟩ := h
  exact ⟨C, W, s, at', (Pst.bnd p).imp fun x s1 W1 H1 l1 at1 p1 => p1 W1 H1 (Vw.Le.refl _) at1⟩
theorem den_ite {t : M Bool} (h : den K Y (iteT t ca cb) σ H Q) : tIf (denT K Y t) (den K Y ca) (den K Y cb) σ H Q := by
  obtain ⟨C, W, s, at', p⟩ := h
  refine ⟨C, W, s, at', (Pst.bnd p).imp fun x s1 W1 H1 l1 at1 p1 => ?_⟩
  cases x with
  | true => exact ⟨C, W1, s1, at1, p1⟩
  | false => exact ⟨C, W1, s1, at1, p1⟩
/-! and, or of truth values, as values -/
def andV (a b : M PV) : M PV := bnd a fun x => match x with
  | .bl true => b
  | .bl false => ret (.bl false)
  | _ => stuck
def notV (a : M PV) : M PV := bnd a fun x => match x with
  | .bl b => ret (.bl (!b))
  | _ => stuck
theorem den_andV (h : den K Y (andV ca cb) σ H Q) : tAndV (den K Y ca) (den K Y cb) σ H Q := by
  obtain ⟨C, W, s, at', p⟩ := h
  refine ⟨C, W, s, at', (Pst.bnd p).imp fun x s1 W1 H1 l1 at1 p1 v rv => ?_⟩
  cases x <;> try exact p1.elim
  rename_i b
  cases rv
  refine ⟨b, rfl, ?_⟩
  cases b with
  | true => exact ⟨C, W1, s1, at1, p1⟩
  | false => exact p1 W1 H1 (Vw.Le.refl _) at1 _ (.bl _)
theorem den_notV (h : den K Y (notV ca) σ H Q) : tNotV (den K Y ca) σ H Q := by
  obtain ⟨C, W, s, at', p⟩ := h
  refine ⟨C, W, s, at', (Pst.bnd p).imp fun x s1 W1 H1 l1 at1 p1 v rv => ?_⟩
  cases x <;> try exact p1.elim
  cases rv
  exact ⟨_, rfl, p1 W1 H1 (Vw.Le.refl _) at1 _ (.bl _)⟩
/-! is None -/
def isN (neg : Bool) (a : M PV) : M PV := bnd a fun x => match x with
  | .non => ret (.bl (!neg))
  | _ => ret (.bl neg)
theorem Rep.isnon (r : Rep K W v d) : decide (v = .non) = (match d with | .non => true | _ => false) := by
  cases r <;> simp
theorem den_isN (h : den K Y (isN false ca) σ H Q) : tIsN (den K Y ca) σ H Q := by
  obtain ⟨C, W, s, at', p⟩ := h
  refine ⟨C, W, s, at', (Pst.bnd p).imp fun x s1 W1 H1 l1 at1 p1 v rv => ?_⟩
  show Q (V.bl (decide (v = V.non))) H1
  rw [rv.isnon]
  cases x <;> exact p1 W1 H1 (Vw.Le.refl _) at1 _ (.bl _)
theorem den_notN (h : den K Y (isN true ca) σ H Q) : tNotN (den K Y ca) σ H Q := by
  obtain ⟨C, W, s, at', p⟩ := h
  refine ⟨C, W, s, at', (Pst.bnd p).imp fun x s1 W1 H1 l1 at1 p1 v rv => ?_⟩
  show Q (V.bl (!decide (v = V.non))) H1
  rw [rv.isnon]
  cases x <;> exact p1 W1 H1 (Vw.Le.refl _) at1 _ (.bl _)
/-! ### arguments, displays -/
def argN : M (List PV) := ret []
def argC (a : M PV) (r : M (List PV)) : M (List PV) := bnd a fun d => bnd r fun ds => ret (d :: ds)
theorem den_argN {QA : List V → Hp → Prop} (h : denA K Y argN σ H QA) : tNil σ H QA := by
  obtain ⟨C, W, s, at', p⟩ := h
  exact p W H (Vw.Le.refl _) at' _ .nil
theorem den_argC {r : M (List PV)} {QA : List V → Hp → Prop} (h : denA K Y (argC ca r) σ H QA) : tCons (den K Y ca) (denA K Y r) σ H QA := by
  obtain ⟨C, W, s, at', p⟩ := h
  refine ⟨C, W, s, at', (Pst.bnd p).imp fun d s1 W1 H1 l1 at1 p1 v rv => ⟨C, W1, s1, at1, (Pst.bnd p1).imp fun ds s2 W2 H2 l2 at2 p2 vs rvs => ?_⟩⟩
  exact p2 W2 H2 (Vw.Le.refl _) at2 _ (.cons (rv.mono l2) rvs)
def fits (c : M (List PV)) : M (List PV) := bnd c fun ds => if ds.length ≤ sizeLine then ret ds else stuck
def tupM (c : M (List PV)) : M PV := bnd (fits c) fun ds => ret (.tup ds)
def lstM (c : M (List PV)) : M PV := bnd c fun ds => ret (.lst ds)
theorem den_tup {c : M (List PV)} (h : den K Y (tupM c) σ H Q) : tTup (denA K Y c) σ H Q := by
  obtain ⟨C, W, s, at', p⟩ := h
  refine ⟨C, W, s, at', (Pst.bnd (Pst.bnd p)).imp fun ds s1 W1 H1 l1 at1 p1 vs rvs => ?_⟩
  split at p1
  · rename_i hl
    refine ⟨by rw [rvs.length]; exact hl, fun q hq => ?_⟩
    have p2 := p1 W1 H1 (Vw.Le.refl _) at1
    obtain ⟨W2, l2, at2, r2⟩ := at1.layT hq rvs
    exact p2 W2 _ l2 at2 _ r2
  · exact p1.elim
/-- a new list, nobody's yet -/
theorem denO_lst {c : M (List PV)} (h : denO K Y (fits c) σ H Q) : tLst (denA K Y c) σ H Q := by
  obtain ⟨C, W, s, at', p⟩ := h
  refine ⟨C, W, s, at', (Pst.bnd p).imp fun ds s1 W1 H1 l1 at1 p1 vs rvs => ?_⟩
  split at p1
  · rename_i hl
    exact ⟨by rw [rvs.length]; exact hl, fun q hq => p1 W1 H1 (Vw.Le.refl _) at1 q vs hq rvs⟩
  · exact p1.elim
/-- .. frozen at once -/
theorem denO_den {c : M (List PV)} (h : den K Y (lstM c) σ H Q) : denO K Y c σ H Q := by
  obtain ⟨C, W, s, at', p⟩ := h
  refine ⟨C, W, s, at', (Pst.bnd p).imp fun ds s1 W1 H1 l1 at1 p1 q vs hq rvs => ?_⟩
  obtain ⟨W2, l2, at2, r2⟩ := at1.layL hq rvs
  exact p1 W2 _ l2 at2 _ r2
/-! ### slices -/
def cutP (xs : List PV) (lo hi : Option Int) : List PV := (xs.drop (HT.sIx xs.length 0 lo)).take (HT.sIx xs.length xs.length hi - HT.sIx xs.length 0 lo)
def cutI (xs : List Int) (lo hi : Option Int) : List Int := (xs.drop (HT.sIx xs.length 0 lo)).take (HT.sIx xs.length xs.length hi - HT.sIx xs.length 0 lo)
theorem Reps.cut {vs : List V} {ds : List PV} (r : Reps K W vs ds) (lo hi : Option Int) : Reps K W (cutV vs lo hi) (cutP ds lo hi) := by
  unfold cutV cutP
  rw [r.length]
  exact (r.drop _).take _
theorem cutV_ints (ns : List Int) (lo hi : Option Int) : cutV (ns.map V.int) lo hi = (cutI ns lo hi).map V.int := by
  unfold cutV cutI
  rw [List.length_map, ← List.map_drop, ← List.map_take]
def denP (K : PySem.W.Frag) (Y : WX) (c : M (Option Int)) : TO := fun σ H Q => ∃ (C : Ctx) (W : Vw) (s : S), At K (C.wi Y) W s σ H ∧ Pst K (C.wi Y) W σ (c s) (fun o _ _ H' => Q o H')
def parN : M (Option Int) := ret none
def parS (c : M PV) : M (Option Int) := bnd c fun d => match d with
  | .int i => ret (some i)
  | _ => stuck
theorem den_parN {QO : Option Int → Hp → Prop} (h : denP K Y parN σ H QO) : tNoPart σ H QO := by
  obtain ⟨C, W, s, at', p⟩ := h
  exact p W H (Vw.Le.refl _) at'
theorem den_parS {QO : Option Int → Hp → Prop} (h : denP K Y (parS ca) σ H QO) : tPart (den K Y ca) σ H QO := by
  obtain ⟨C, W, s, at', p⟩ := h
  refine ⟨C, W, s, at', (Pst.bnd p).imp fun d s1 W1 H1 l1 at1 p1 v rv => ?_⟩
  cases d <;> try exact p1.elim
  cases rv
  exact ⟨_, rfl, p1 W1 H1 (Vw.Le.refl _) at1⟩
def slP : PV → Option Int → Option Int → Option PV
  | .lst xs, lo, hi => some (.lst (cutP xs lo hi))
  | .tup xs, lo, hi => some (.tup (cutP xs lo hi))
  | .scr xs, lo, hi => some (.lst ((cutI xs lo hi).map .int))
  | .str x, lo, hi => if x.length ≤ sizeLine then some (.str (cutS x lo hi)) else none
  | _, _, _ => none
def slM (c : M PV) (lo hi : M (Option Int)) : M PV := bnd c fun d => bnd lo fun a => bnd hi fun b => lft (slP d a b)
def rSlU (K : PySem.W.Frag) : V → Option Int → Option Int → Hp → VK → Prop := fun x lo hi H Q => (rSlL K x lo hi H Q ∨ rSlA K x lo hi H Q) ∨ rSlS x lo hi H Q
theorem sl_u {X : Cx} : SlR X (rSlU X.K) := SlR.or (SlR.or sl_list sl_tupA) sl_str
theorem cut_all {vs : List V} {lo hi : Option Int} (h : HT.sIx vs.length 0 lo = 0 ∧ HT.sIx vs.length vs.length hi = vs.length) : cutV vs lo hi = vs := by
  unfold cutV
  rw [h.1, h.2, List.drop_zero, Nat.sub_zero, List.take_length]
theorem den_sl {lo hi : M (Option Int)} (h : den K Y (slM ca lo hi) σ H Q) : tSl (rSlU K) (den K Y ca) (denP K Y lo) (denP K Y hi) σ H Q := by
  obtain ⟨C, W, s, at', p⟩ := h
  refine ⟨C, W, s, at', (Pst.bnd p).imp fun d s1 W1 H1 l1 at1 p1 v rv => ⟨C, W1, s1, at1, (Pst.bnd p1).imp fun a s2 W2 H2 l2 at2 p2 => ⟨C, W2, s2, at2, (Pst.bnd p2).imp fun b s3 W3 H3 l3 at3 p3 => ?_⟩⟩⟩
  obtain ⟨e', he, q⟩ := p3.lft'
  have q0 := q W3 H3 (Vw.Le.refl W3) at3
  have rv := rv.mono (l2.trans l3)
  unfold slP at he
  split at he
  · cases he
    cases rv with
    | lst hx rx =>
      refine .inl (.inl ⟨_, _, rfl, SqL.of (at3.ok.sub _ _ hx), fun p hp => ?_⟩)
      obtain ⟨W4, l4, at4, r4⟩ := at3.layL hp (rx.cut a b)
      exact q W4 _ l4 at4 _ r4
  · cases he
    cases rv with
    | @tup x vs _ hx rx =>
      refine .inl (.inr ⟨_, _, rfl, same_t at3.ok.sub hx, fun e => ?_, fun _ p hp => ?_⟩)
      · refine q0 _ (.tup hx ?_)
        have := rx.cut a b
        rw [cut_all e] at this
        exact this
      · obtain ⟨W4, l4, at4, r4⟩ := at3.layT hp (rx.cut a b)
        exact q W4 _ l4 at4 _ r4
  · cases he
    cases rv with
    | scr hx =>
      refine .inl (.inl ⟨_, _, rfl, at3.ok.sub.seq hx, fun p hp => ?_⟩)
      rw [cutV_ints]
      obtain ⟨W4, l4, at4, r4⟩ := at3.layL hp (Reps.ints (K := K) (W := W3) _)
      exact q W4 _ l4 at4 _ r4
  · split at he
    · cases he
      cases rv
      exact .inr ⟨_, rfl, by assumption, q0 _ (.str _)⟩
    · cases he
  · cases he
/-! ### built-ins of one argument -/
abbrev Fn1 (r : List V → Hp → VK → Prop) (K : PySem.W.Frag) (f : PV → M PV) : Prop := ∀ (C : Ctx) (W : Vw) (s : S) (σ : L2.St) (H : Hp) (v : V) (a : PV) (Q : VK), At K C W s σ H → RdV K W H v a → Pst K C W σ (f a s) (WantV K Q) → r [v] H Q
abbrev Fn1O (r : List V → Hp → VK → Prop) (K : PySem.W.Frag) (f : PV → M (List PV)) : Prop := ∀ (C : Ctx) (W : Vw) (s : S) (σ : L2.St) (H : Hp) (v : V) (a : PV) (Q : VK), At K C W s σ H → RdV K W H v a → Pst K C W σ (f a s) (WantL K Q) → r [v] H Q
theorem den_fn1 {r : List V → Hp → VK → Prop} {f : PV → M PV} (hf : Fn1 r K f) (h : den K Y (bnd ca f) σ H Q) : tCB r (tCons (den K Y ca) tNil) σ H Q := by
  obtain ⟨C, W, s, at', p⟩ := h
  exact ⟨C, W, s, at', (Pst.bnd p).imp fun a s1 W1 H1 l1 at1 p1 v rv => hf _ W1 s1 σ H1 v a Q at1 (.rep rv) p1⟩
theorem denO_fn1 {r : List V → Hp → VK → Prop} {f : PV → M (List PV)} (hf : Fn1O r K f) (h : denO K Y (bnd ca f) σ H Q) : tCB r (tCons (den K Y ca) tNil) σ H Q := by
  obtain ⟨C, W, s, at', p⟩ := h
  exact ⟨C, W, s, at', (Pst.bnd p).imp fun a s1 W1 H1 l1 at1 p1 v rv => hf _ W1 s1 σ H1 v a Q at1 (.rep rv) p1⟩
def lenP : PV → Option PV
  | .lst xs => some (.int xs.length)
  | .tup xs => some (.int xs.length)
  | .scr xs => some (.int xs.length)
  | .str x => if x.length ≤ sizeLine then some (.int x.length) else none
  | _ => none
abbrev rLen (K : PySem.W.Frag) : List V → Hp → VK → Prop := fun xs H Q => ∃ x n, xs = [x] ∧ LenV K x H n ∧ Q (.int n) H
theorem fn_len : Fn1 (rLen K) K (fun a => lft (lenP a)) := by
  intro C W s σ H v a Q at' ra p
  obtain ⟨d, e, q⟩ := p.lft'
  have q0 := q W H (Vw.Le.refl W) at'
  unfold lenP at e
  split at e
  · cases e
    obtain ⟨x, vs, rfl, hx, rx⟩ := ra.lst at'.ok.sub
    exact ⟨_, _, rfl, .inl ⟨_, SqL.of hx, rfl⟩, q0 _ (by rw [rx.length]; exact .int _)⟩
  · cases e
    obtain ⟨x, vs, rfl, hx, hx2, rx⟩ := ra.tup at'.ok.sub
    exact ⟨_, _, rfl, .inr ⟨_, hx2, rfl⟩, q0 _ (by rw [rx.length]; exact .int _)⟩
  · cases e
    obtain ⟨x, rfl, hx⟩ := ra.scr at'.ok.sub
    exact ⟨_, _, rfl, .inl ⟨_, hx, rfl⟩, q0 _ (by rw [List.length_map]; exact .int _)⟩
  · split at e
    · cases e
      cases ra.str
      exact ⟨_, _, rfl, ⟨by assumption, rfl⟩, q0 _ (.int _)⟩
    · cases e
  · cases e
def absP : PV → Option PV
  | .int i => some (.int (if i < 0 then -i else i))
  | _ => none
theorem fn_abs : Fn1 (fun xs H Q => ∃ i, xs = [.int i] ∧ Q (.int (if i < 0 then -i else i)) H) K (fun a => lft (absP a)) := by
  intro C W s σ H v a Q at' ra p
  obtain ⟨d, e, q⟩ := p.lft'
  have q0 := q W H (Vw.Le.refl W) at'
  unfold absP at e
  split at e
  · cases e
    cases ra.int
    exact ⟨_, rfl, q0 _ (.int _)⟩
  · cases e
def intP : PV → Option PV
  | .int i => some (.int i)
  | .bl k => some (.int (if k = true then 1 else 0))
  | _ => none
theorem fn_int : Fn1 (fun xs H Q => (∃ i, xs = [.int i] ∧ Q (.int i) H) ∨ ∃ k, xs = [.bl k] ∧ Q (.int (if k then 1 else 0)) H) K (fun a => lft (intP a)) := by
  intro C W s σ H v a Q at' ra p
  obtain ⟨d, e, q⟩ := p.lft'
  have q0 := q W H (Vw.Le.refl W) at'
  unfold intP at e
  split at e
  · cases e
    cases ra.int
    exact .inl ⟨_, rfl, q0 _ (.int _)⟩
  · cases e
    cases ra.bl
    exact .inr ⟨_, rfl, q0 _ (.int _)⟩
  · cases e
def blsOf : List PV → Option (List Bool)
  | [] => some []
  | .bl x :: r => (blsOf r).map (x :: ·)
  | _ :: _ => none
theorem blsOf_ok : ∀ {ds : List PV} {xs : List Bool}, blsOf ds = some xs → ds = xs.map PV.bl
  | [], xs, h => by cases h; rfl
  | .bl x :: r, xs, h => by
    have h : (blsOf r).map (x :: ·) = some xs := h
    obtain ⟨ys, e, rfl⟩ := Option.map_eq_some_iff.mp h
    rw [blsOf_ok e]
    rfl
  | .non :: _, _, h => by cases h
  | .str _ :: _, _, h => by cases h
  | .int _ :: _, _, h => by cases h
  | .tup _ :: _, _, h => by cases h
  | .lst _ :: _, _, h => by cases h
  | .scr _ :: _, _, h => by cases h
  | .hnd _ :: _, _, h => by cases h
  | .obj .. :: _, _, h => by cases h
  | .exn .. :: _, _, h => by cases h
  | .dic .. :: _, _, h => by cases h
  | .dct .. :: _, _, h => by cases h
  | .kt .. :: _, _, h => by cases h
theorem blsOf_map (xs : List Bool) : blsOf (xs.map PV.bl) = some xs := by
  induction xs with
  | nil => rfl
  | cons x r ih => show (blsOf (r.map PV.bl)).map (x :: ·) = _; rw [ih]; rfl
def allP : PV → Option PV
  | .lst xs => (blsOf xs).map fun bs => .bl (bs.all id)
  | _ => none
theorem fn_all : Fn1 (rAll K) K (fun a => lft (allP a)) := by
  intro C W s σ H v a Q at' ra p
  obtain ⟨d, e, q⟩ := p.lft'
  have q0 := q W H (Vw.Le.refl W) at'
  unfold allP at e
  split at e
  · obtain ⟨bs, e1, rfl⟩ := Option.map_eq_some_iff.mp e
    obtain ⟨x, vs, rfl, hx, rx⟩ := ra.lst at'.ok.sub
    have ew := blsOf_ok e1
    subst ew
    have ew := rx.of_bls
    subst ew
    exact ⟨x, bs, rfl, SqL.of hx, q0 _ (.bl _)⟩
  · cases e
def listP : PV → Option (List PV)
  | .lst xs => some xs
  | .tup xs => some xs
  | .scr xs => some (xs.map .int)
  | _ => none
abbrev rListOf (K : PySem.W.Frag) : List V → Hp → VK → Prop := fun xs H Q => ∃ p ys, xs = [.ref p] ∧ (SqL K H p ys ∨ SqT K H p ys) ∧ ∀ l, H l = none → Q (.ref l) (upd H l (.lst ys))
theorem fn_list : Fn1O (rListOf K) K (fun a => lft (listP a)) := by
  intro C W s σ H v a Q at' ra p
  obtain ⟨d, e, q⟩ := p.lft'
  have q0 := q W H (Vw.Le.refl W) at'
  unfold listP at e
  split at e
  · cases e
    obtain ⟨x, vs, rfl, hx, rx⟩ := ra.lst at'.ok.sub
    exact ⟨x, vs, rfl, .inl (SqL.of hx), fun l hl => q0 l vs hl rx⟩
  · cases e
    obtain ⟨x, vs, rfl, hx, hx2, rx⟩ := ra.tup at'.ok.sub
    exact ⟨x, vs, rfl, .inr hx2, fun l hl => q0 l vs hl rx⟩
  · cases e
    obtain ⟨x, rfl, hx⟩ := ra.scr at'.ok.sub
    exact ⟨x, _, rfl, .inl hx, fun l hl => q0 l _ hl (Reps.ints _)⟩
  · cases e
def tupleP : PV → Option PV
  | .lst xs => some (.tup xs)
  | .tup xs => some (.tup xs)
  | _ => none
/-! ### methods -/
def joinP (a : Str) : PV → Option PV
  | .lst ys => match strsOf ys with
    | some zs => if (zs.map (·.length)).sum + zs.length * a.length ≤ 16777216 then some (.str (Txt.join a zs)) else none
    | none => none
  | _ => none
def joinM (ca cb : M PV) : M PV := bnd ca fun a => match a with
  | .str x => bnd cb fun b => lft (joinP x b)
  | _ => stuck
abbrev rJoin (K : PySem.W.Frag) : V → List V → Hp → VK → Prop := fun x xs H Q => ∃ a p, ∃ ys : List Str, x = .str a ∧ xs = [.ref p] ∧ (SqL K H p (ys.map V.str) ∨ SqT K H p (ys.map V.str)) ∧ (ys.map (·.length)).sum + ys.length * a.length ≤ 16777216 ∧ Q (.str (Txt.join a ys)) H
theorem den_join (h : den K Y (joinM ca cb) σ H Q) : tM1 (rJoin K) (den K Y ca) (den K Y cb) σ H Q := by
  obtain ⟨C, W, s, at', p⟩ := h
  refine ⟨C, W, s, at', (Pst.bnd p).imp fun a s1 W1 H1 l1 at1 p1 v rv => ?_⟩
  cases a <;> try exact p1.elim
  rename_i x
  cases rv
  refine ⟨⟨_, rfl⟩, C, W1, s1, at1, (Pst.bnd p1).imp fun b s2 W2 H2 l2 at2 p2 w rw' => ?_⟩
  obtain ⟨d, e, q⟩ := p2.lft'
  have q0 := q W2 H2 (Vw.Le.refl W2) at2
  unfold joinP at e
  split at e
  · split at e
    · rename_i zs e1
      split at e
      · cases e
        cases rw' with
        | lst hx rx =>
          have ew := strsOf_ok e1
          subst ew
          have ew := rx.of_strs
          subst ew
          exact ⟨_, _, zs, rfl, rfl, .inl (SqL.of (at2.ok.sub _ _ hx)), by assumption, q0 _ (.str _)⟩
      · cases e
    · cases e
  · cases e
/-- x.append(e), x a name that owns its list -/
def chkO (i : Nat) : M Unit := fun s => match s.env[i]? with
  | some (some (.own _)) => .ok () s
  | _ => .stk
theorem chkO_ok {α : Type} {f : Unit → M α} {Q : α → S → Vw → Hp → Prop} (h : At K C W s σ H) (p : Pst K C W σ (bnd (chkO i) f s) Q) : (∃ xs, s.env[i]? = some (some (.own xs))) ∧ Pst K C W σ (f () s) Q := by
  unfold bnd chkO at p
  split at p
  · rename_i a s' e
    split at e
    · rename_i xs he
      cases e
      exact ⟨⟨_, he⟩, p⟩
    · cases e
  · rename_i e
    split at e <;> cases e
  · exact p.elim
def pushM (i : Nat) (d : PV) : M PV := fun s => match s.env[i]? with
  | some (some (.own xs)) => if xs.length < sizeLine then .ok .non { s with env := s.env.set i (some (.own (xs ++ [d]))) } else .stk
  | _ => .stk
def appM (i : Nat) (ca : M PV) : M PV := bnd (chkO i) fun _ => bnd ca fun d => pushM i d
theorem den_app (h : den K Y (appM i ca) σ H Q) : tBM K "list" rAppend (tVar i) (tCons (den K Y ca) tNil) σ H Q := by
  obtain ⟨C, W, s, at', p⟩ := h
  obtain ⟨⟨xs, e⟩, p⟩ := chkO_ok at' p
  obtain ⟨a, vs, e1, ow, e2, r⟩ := at'.own i xs e
  refine ⟨.ref a, e1, .inl ⟨rfl, vs, SqL.of e2⟩, C, W, s, at', (Pst.bnd p).imp fun d s1 W1 H1 l1 at1 p1 v rv => ?_⟩
  unfold pushM at p1
  split at p1
  · rename_i ys he
    split at p1
    · rename_i hl
      obtain ⟨a', vs', f1, ow', f2, r'⟩ := at1.own i ys he
      rw [e1] at f1
      cases f1
      refine ⟨a, vs', v, rfl, rfl, f2, by rw [r'.length]; exact hl, ?_⟩
      exact p1 W1 _ (Vw.Le.refl _) (at1.change he e1 (r'.append (.cons rv .nil))) _ .non
    · exact p1.elim
  · exact p1.elim
end
/-! ### handles -/
def valP {κ : Type} [DecidableEq κ] (kvs : List (κ × PV)) (k : κ) : Option PV := (kvs.find? fun kv => decide (kv.1 = k)).map (·.2)
def putP {κ : Type} [DecidableEq κ] (kvs : List (κ × PV)) (k : κ) (v : PV) : List (κ × PV) :=
  if (kvs.any fun kv => decide (kv.1 = k)) = true then kvs.map (fun kv => if kv.1 = k then (kv.1, v) else kv) else kvs ++ [(k, v)]
def mergeP (kvs more : List (Key × PV)) : List (Key × PV) := more.foldl (fun acc kv => putP acc kv.1 kv.2) kvs
section
variable {Y : WX} {K : PySem.W.Frag} {C : Ctx} {W W' : Vw} {σ : L2.St} {H : Hp} {s : S} {v w : V} {d : PV} {Q : VK} {i : Nat} {ca cb cd : M PV} {κ : Type} [DecidableEq κ]
theorem KVs.get : ∀ {r : List (κ × V)} {q : List (κ × PV)} {k : κ} {d : PV}, KVs K W r q → valP q k = some d → ∃ v, valV r k = some v ∧ Rep K W v d
  | _, _, k, d, .nil, h => by cases h
  | _, _, k, d, .cons (k := k') (v := v) (d := d') (r := r) (s := q) h t, e => by
    unfold valP at e
    unfold valV
    rw [List.find?_cons] at e ⊢
    by_cases hk : k' = k
    · rw [decide_eq_true (show ((k', d') : κ × PV).1 = k from hk)] at e
      rw [decide_eq_true (show ((k', v) : κ × V).1 = k from hk)]
      cases e
      exact ⟨v, rfl, h⟩
    · rw [decide_eq_false (show ¬ ((k', d') : κ × PV).1 = k from hk)] at e
      rw [decide_eq_false (show ¬ ((k', v) : κ × V).1 = k from hk)]
      exact KVs.get t e
theorem KVs.length : ∀ {r : List (κ × V)} {q : List (κ × PV)}, KVs K W r q → r.length = q.length
  | _, _, .nil => rfl
  | _, _, .cons _ t => congrArg Nat.succ (KVs.length t)
theorem KVs.any : ∀ {r : List (κ × V)} {q : List (κ × PV)} {k : κ}, KVs K W r q → (r.any fun kv => decide (kv.1 = k)) = (q.any fun kv => decide (kv.1 = k))
  | _, _, _, .nil => rfl
  | _, _, k, .cons _ t => by
    rw [List.any_cons, List.any_cons, KVs.any t]
theorem KVs.append : ∀ {r r' : List (κ × V)} {q q' : List (κ × PV)}, KVs K W r q → KVs K W r' q' → KVs K W (r ++ r') (q ++ q')
  | _, _, _, _, .nil, t => t
  | _, _, _, _, .cons h t, u => .cons h (KVs.append t u)
theorem KVs.over {k : κ} (h : Rep K W v d) : ∀ {r : List (κ × V)} {q : List (κ × PV)}, KVs K W r q → KVs K W (r.map (fun kv => if kv.1 = k then (kv.1, v) else kv)) (q.map (fun kv => if kv.1 = k then (kv.1, d) else kv))
  | _, _, .nil => .nil
  | _, _, .cons (k := k') (v := v') (d := d') g t => by
    rw [List.map_cons, List.map_cons]
    by_cases hk : k' = k
    · rw [if_pos (show ((k', v') : κ × V).1 = k from hk), if_pos (show ((k', d') : κ × PV).1 = k from hk)]
      exact .cons h (KVs.over h t)
    · rw [if_neg (show ¬ ((k', v') : κ × V).1 = k from hk), if_neg (show ¬ ((k', d') : κ × PV).1 = k from hk)]
      exact .cons g (KVs.over h t)
theorem KVs.put {k : κ} {r : List (κ × V)} {q : List (κ × PV)} (t : KVs K W r q) (h : Rep K W v d) : KVs K W (putK r k v) (putP q k d) := by
  unfold putK putP
  rw [t.any]
  split
  · exact t.over h
  · exact t.append (.cons h .nil)
theorem KVs.merge : ∀ {m r : List (Key × V)} {n q : List (Key × PV)}, KVs K W m n → KVs K W r q → KVs K W (mergeK r m) (mergeP q n)
  | _, _, _, _, .nil, t => t
  | _, _, _, _, .cons (k := k) (v := v) (d := d) (r := m) (s := n) h u, t => by
    show KVs K W (mergeK (putK _ k v) m) (mergeP (putP _ k d) n)
    exact KVs.merge u (t.put h)
/-- d['k'] of a handle -/
def hgetP : PV → PV → M PV := fun a b s => match a, b with
  | .hnd n, .str k => match s.sto[n]? with
    | some (.dic kvs) => match valP kvs (.inr k) with
      | some d => .ok d s
      | none => .stk
    | _ => .stk
  | _, _ => .stk
theorem bin_hget : Bin (fun x y H Q => ∃ a v, x = .ref a ∧ DGet H a y (some v) ∧ Q v H) K hgetP := by
  intro C W s σ H v w a b Q at' ra rb p
  unfold hgetP at p
  split at p
  · rename_i n k
    split at p
    · rename_i kvs hs
      split at p
      · rename_i d hd
        obtain ⟨x, rfl, hx⟩ := ra.hnd
        cases rb.str
        cases (at'.ok.live hx hs (fun z => nomatch z)).2 with
        | dic hH kv =>
          obtain ⟨y, hy, ry⟩ := kv.get hd
          refine ⟨x, y, rfl, ?_, p W H (Vw.Le.refl _) at' _ ry⟩
          rw [← hy]
          exact DGet.k (k := Sum.inr k) hH
      · exact p.elim
    · exact p.elim
  · exact p.elim
theorem den_hget (h : den K Y (bin ca cb hgetP) σ H Q) : tDGet (den K Y ca) (den K Y cb) σ H Q := den_bin bin_hget h
/-- a handle's object changed -/
theorem At.putG {n : Nat} {a : Addr} {o : HO} {mo mo' : MO} (h : At K C W s σ H) (hn : W.hs[n]? = some a) (hm : s.sto[n]? = some mo) (hg : mo ≠ .gone) (r : MRep K W (upd H a o) a mo') : At K C W { s with sto := s.sto.set n mo' } σ (upd H a o) := by
  obtain ⟨fa, _⟩ := h.ok.live hn hm hg
  have hnl : n < s.sto.length := (List.getElem?_eq_some_iff.mp hm).1
  refine ⟨⟨fun b u e => ?_, fun m b e => ?_, h.ok.nd, by rw [List.length_set]; exact h.ok.len, h.ok.tab.upd (h.ok.no_tbl hn fa)⟩, fun b u e hb => ?_, h.pre, h.gro, h.len, h.val, fun j ys e => ?_, h.dst⟩
  · rw [upd_ne (ne_of_none e fa)]
    exact h.ok.sub b u e
  · by_cases hb : b = a
    · subst hb
      have hmn : m = n := by
        obtain ⟨x1, y1⟩ := List.getElem?_eq_some_iff.mp e
        obtain ⟨x2, y2⟩ := List.getElem?_eq_some_iff.mp hn
        exact (List.getElem_inj h.ok.nd).mp (y1.trans y2.symm)
      subst hmn
      exact .inl ⟨fa, _, List.getElem?_set_self hnl, r⟩
    · have hmn : n ≠ m := fun z => by
        subst z
        rw [hn] at e
        cases e
        exact hb rfl
      exact (h.ok.hnd m b e).map rfl (List.getElem?_set_ne hmn) fun mo g3 => g3.other hb
  · have hba : b ≠ a := fun z => by
      subst z
      have hg : C.G b ≠ none := by rw [e]; exact fun q => nomatch q
      exact hb ((h.gro b hg).2 (List.mem_of_getElem? hn))
    rw [upd_ne hba]
    exact h.keep b u e hb
  · obtain ⟨b, ws, e1, ow, e2, r2⟩ := h.own j ys e
    have hba : b ≠ a := fun z => ow.h (by rw [z]; exact List.mem_of_getElem? hn)
    exact ⟨b, ws, e1, ow, by rw [upd_ne hba]; exact e2, r2⟩
theorem At.put {n : Nat} {a : Addr} {kvs : List (Key × V)} {q : List (Key × PV)} {mo : MO} (h : At K C W s σ H) (hn : W.hs[n]? = some a) (hm : s.sto[n]? = some mo) (hg : mo ≠ .gone) (r : KVs K W kvs q) : At K C W { s with sto := s.sto.set n (.dic q) } σ (upd H a (.dK kvs)) := h.putG hn hm hg (.dic upd_same r)
/-- d['k'] = v -/
def hputM (cd ck cv : M PV) : M Fl := bnd cv fun v => bnd cd fun a => bnd ck fun b => fun s => match a, b with
  | .hnd n, .str k => match s.sto[n]? with
    | some (.dic kvs) => if kvs.length < sizeLine then .ok .nx { s with sto := s.sto.set n (.dic (putP kvs (.inr k) v)) } else .stk
    | _ => .stk
  | _, _ => .stk
end
/-! ### statements: what is wanted of an expression within -/
section
variable {Y : WX} {K : PySem.W.Frag} {C : Ctx} {W W' : Vw} {σ : L2.St} {H : Hp} {s : S} {α : Type} {D : Ends}
theorem PstS.up {r : Res S Fl} (l : W.Le W') (h : PstS K C W D r) : PstS K C W' D r := by
  cases r with
  | ok a s' => exact fun W2 σ2 H2 l2 at2 => h W2 σ2 H2 (l.trans l2) at2
  | exc e s' => exact fun W2 σ2 H2 cls d l2 at2 r => h W2 σ2 H2 cls d (l.trans l2) at2 r
  | stk => exact h
theorem PstS.bnd {c : M α} {f : α → M Fl} (h : PstS K C W D (Dn.bnd c f s)) : Pst K C W σ (c s) (fun a s1 W1 _ => PstS K C W1 D (f a s1)) := by
  unfold Dn.bnd at h
  cases e : c s with
  | ok a s1 =>
    rw [e] at h
    exact fun W1 H1 l _ => h.up l
  | exc => rw [e] at h; exact h
  | stk => rw [e] at h; exact h
theorem den_hput {cd ck cv : M PV} (h : denS K Y (hputM cd ck cv) D σ H) : sDPut (den K Y cd) (den K Y ck) (den K Y cv) D σ H := by
  obtain ⟨C, W, s, at', p⟩ := h
  refine ⟨C, W, s, at', (PstS.bnd p).imp fun v s1 W1 H1 l1 at1 p1 x rx => ⟨C, W1, s1, at1, (PstS.bnd p1).imp fun a s2 W2 H2 l2 at2 p2 y ry => ⟨C, W2, s2, at2, (PstS.bnd p2).imp fun b s3 W3 H3 l3 at3 p3 z rz => ?_⟩⟩⟩
  split at p3
  · rename_i n k
    split at p3
    · rename_i kvs hs
      split at p3
      · rename_i hl
        cases rz
        have ry := ry.mono l3
        cases ry with
        | hnd hx =>
          rename_i a
          cases (at3.ok.live hx hs (fun z => nomatch z)).2 with
          | dic hH kv =>
            refine ⟨a, _, rfl, DPut.k (k := Sum.inr k) hH (by rw [kv.length]; exact hl), ?_⟩
            exact p3 W3 _ _ (Vw.Le.refl _) (at3.put hx hs (fun z => nomatch z) (kv.put (rx.mono (l2.trans l3))))
      · exact p3.elim
    · exact p3.elim
  · exact p3.elim
end
end Dn
/-! Den4: dict displays, comprehensions, statements. -/
namespace Dn
open PySem L2
/-! ### an address held apart while something is made -/
def Ctx.res (C : Ctx) (D : Addr) (o : HO) : Ctx := { G := upd C.G D o, F0 := fun b => if b = D then none else C.F0 b, hs0 := C.hs0, X := C.X }
def del (H : Hp) (D : Addr) : Hp := fun b => if b = D then none else H b
theorem del_same {H : Hp} {D : Addr} : del H D D = none := if_pos rfl
theorem del_ne {H : Hp} {D b : Addr} (h : b ≠ D) : del H D b = H b := if_neg h
theorem upd_del {H : Hp} {D : Addr} {o : HO} (h : H D = some o) : upd (del H D) D o = H := by
  funext b
  by_cases hb : b = D
  · subst hb; rw [upd_same, h]
  · rw [upd_ne hb, del_ne hb]
section
variable {Y : WX} {K : PySem.W.Frag} {C : Ctx} {W W' : Vw} {σ : L2.St} {H : Hp} {s : S} {v w : V} {d : PV} {Q : VK} {i : Nat} {ca cb cd : M PV} {D : Addr} {o : HO}
theorem At.resIn (h : At K C W s σ H) (hD : H D = none) (o : HO) : At K (C.res D o) W s σ (upd H D o) := by
  obtain ⟨f1, f2, f3⟩ := h.fresh hD
  refine ⟨⟨fun b u e => ?_, fun n b e => ?_, h.ok.nd, h.ok.len, h.ok.tab.upd (no_tbl0 hD)⟩, fun b u e hb => ?_, h.pre, fun b hb => ?_, h.len, h.val, fun j ys e => ?_, h.dst⟩
  · rw [upd_ne (ne_of_none e f1)]
    exact h.ok.sub b u e
  · exact (h.ok.hnd n b e).map rfl rfl fun mo g3 => g3.other fun z => f2 (by rw [← z]; exact List.mem_of_getElem? e)
  · by_cases hbD : b = D
    · subst hbD
      have e : upd C.G b o b = some u := e
      rw [upd_same] at e ⊢
      exact .inl e
    · have e : upd C.G D o b = some u := e
      rw [upd_ne hbD] at e ⊢
      exact h.keep b u e hb
  · by_cases hbD : b = D
    · subst hbD
      exact ⟨by show _ = (if b = b then none else C.F0 b); rw [if_pos rfl]; exact f1, fun z => absurd z f2⟩
    · have hb : upd C.G D o b ≠ none := hb
      rw [upd_ne hbD] at hb
      obtain ⟨g1, g2⟩ := h.gro b hb
      exact ⟨by show _ = (if b = D then none else C.F0 b); rw [if_neg hbD]; exact g1, g2⟩
  · obtain ⟨b, ws, e1, ow, e2, r2⟩ := h.own j ys e
    have hb : b ≠ D := ne_of_none e2 hD
    exact ⟨b, ws, e1, ⟨ow.f, ow.h, by show upd C.G D o b = none; rw [upd_ne hb]; exact ow.g⟩, by rw [upd_ne hb]; exact e2, r2⟩
theorem At.resOut (h : At K (C.res D o) W s σ H) (hG : C.G D = none) (hh : D ∉ C.hs0) (no : ∀ ps, o ≠ .tbl ps := by exact fun _ z => nomatch z) : del H D D = none ∧ upd (del H D) D o = H ∧ At K C W s σ (del H D) := by
  have eD : (C.res D o).G D = some o := upd_same
  have hHD : H D = some o := (h.keep D o eD hh).eq no
  have gD : (C.res D o).G D ≠ none := by rw [eD]; exact fun z => nomatch z
  obtain ⟨g1, g2⟩ := h.gro D gD
  have g1 : W.F D = none := by rw [g1]; show (if D = D then none else C.F0 D) = none; rw [if_pos rfl]
  have g2 : D ∉ W.hs := fun z => hh (g2 z)
  refine ⟨del_same, upd_del hHD, ⟨⟨fun b u e => ?_, fun n b e => ?_, h.ok.nd, h.ok.len, h.ok.tab.up (fun _ _ e => e) fun P ps e f => ⟨f, by rw [del_ne (fun z => no ps (Option.some.inj (hHD.symm.trans (by rw [← z]; exact e))))]; exact e⟩⟩, fun b u e hb => ?_, h.pre, fun b hb => ?_, h.len, h.val, fun j ys e => ?_, h.dst⟩⟩
  · rw [del_ne (ne_of_none e g1)]
    exact h.ok.sub b u e
  · have hb : b ≠ D := fun z => g2 (by rw [← z]; exact List.mem_of_getElem? e)
    exact (h.ok.hnd n b e).map rfl rfl fun mo k3 => k3.at (del_ne hb)
  · have hbD : b ≠ D := fun z => by rw [z, hG] at e; cases e
    rw [del_ne hbD]
    refine h.keep b u ?_ hb
    show upd C.G D o b = _
    rw [upd_ne hbD]
    exact e
  · have hbD : b ≠ D := fun z => by rw [z] at hb; exact hb hG
    obtain ⟨k1, k2⟩ := h.gro b (by show upd C.G D o b ≠ none; rw [upd_ne hbD]; exact hb)
    have k1 : W.F b = (if b = D then none else C.F0 b) := k1
    rw [if_neg hbD] at k1
    exact ⟨k1, k2⟩
  · obtain ⟨b, ws, e1, ow, e2, r2⟩ := h.own j ys e
    have og : upd C.G D o b = none := ow.g
    have hb : b ≠ D := fun z => by rw [z, upd_same] at og; cases og
    rw [upd_ne hb] at og
    exact ⟨b, ws, e1, ⟨ow.f, ow.h, og⟩, by rw [del_ne hb]; exact e2, r2⟩
theorem At.nohs (h : At K C W s σ H) (hD : H D = none) : C.G D = none ∧ D ∉ C.hs0 := by
  obtain ⟨_, f2, f3⟩ := h.fresh hD
  refine ⟨f3, fun hm => f2 ?_⟩
  obtain ⟨n, hn⟩ := List.getElem?_of_mem hm
  exact List.mem_of_getElem? (h.pre n D hn)
/-- something new that nobody knows of -/
theorem At.extra {p : Addr} (h : At K C W s σ H) (hp : H p = none) (o : HO) : At K C W s σ (upd H p o) := by
  obtain ⟨f1, f2, f3⟩ := h.fresh hp
  refine ⟨⟨fun b u e => ?_, fun n b e => ?_, h.ok.nd, h.ok.len, h.ok.tab.upd (no_tbl0 hp)⟩, fun b u e hb => ?_, h.pre, h.gro, h.len, h.val, fun j ys e => ?_, h.dst⟩
  · rw [upd_ne (ne_of_none e f1)]
    exact h.ok.sub b u e
  · exact (h.ok.hnd n b e).map rfl rfl fun mo g3 => g3.other fun z => f2 (by rw [← z]; exact List.mem_of_getElem? e)
  · rw [upd_ne (fun z => by rw [z, f3] at e; cases e)]
    exact h.keep b u e hb
  · obtain ⟨b, ws, e1, ow, e2, r2⟩ := h.own j ys e
    exact ⟨b, ws, e1, ow, by rw [upd_ne (ne_of_none e2 hp)]; exact e2, r2⟩
theorem At.resExt (h : At K (C.res D o) W s σ H) (hG : C.G D = none) (hh : D ∉ C.hs0) (no : ∀ ps, o ≠ .tbl ps := by exact fun _ z => nomatch z) : At K C W s σ H := by
  obtain ⟨e1, e2, a⟩ := h.resOut hG hh no
  have a2 := a.extra e1 o
  rw [e2] at a2
  exact a2
/-- what is wanted, while D is held apart -/
theorem Pst.res {α : Type} {r : Res S α} {Q : α → S → Vw → Hp → Prop} (hG : C.G D = none) (hh : D ∉ C.hs0) (no : ∀ ps, o ≠ .tbl ps := by exact fun _ z => nomatch z) (h : Pst K C W σ r Q) : Pst K (C.res D o) W σ r (fun a s' W' H' => Q a s' W' (del H' D)) := by
  cases r with
  | ok a s' => exact fun W' H' l at' => h W' _ l (at'.resOut hG hh no).2.2
  | exc e s' => exact fun W' σ' H' cls d l at' r => h W' σ' H' cls d l (at'.resExt hG hh no) r
  | stk => exact h
/-- a new handle -/
theorem At.newH {p : Addr} {r : List (Key × V)} {q : List (Key × PV)} (h : At K C W s σ H) (hp : H p = none) (k : KVs K W r q) :
    W.Le ⟨W.F, W.hs ++ [p]⟩ ∧ At K C ⟨W.F, W.hs ++ [p]⟩ { s with sto := s.sto ++ [.dic q] } σ (upd H p (.dK r)) ∧ Rep K ⟨W.F, W.hs ++ [p]⟩ (.ref p) (.hnd s.sto.length) := by
  obtain ⟨f1, f2, f3⟩ := h.fresh hp
  have le : W.Le ⟨W.F, W.hs ++ [p]⟩ := ⟨Same.refl _, fun n a e => by
    have := (List.getElem?_eq_some_iff.mp e).1
    show (W.hs ++ [p])[n]? = _
    rw [List.getElem?_append_left this]
    exact e⟩
  refine ⟨le, ⟨⟨fun b u e => ?_, fun n b e => ?_, ?_, ?_, TabK.upd h.ok.tab.hs (no_tbl0 hp)⟩, fun b u e hb => ?_, fun n b e => le.pre n b (h.pre n b e), fun b hb => ?_, h.len, fun j e he => ?_, fun j ys e => ?_, h.dst⟩, .hnd ?_⟩
  · rw [upd_ne (ne_of_none e f1)]
    exact h.ok.sub b u e
  · have e : (W.hs ++ [p])[n]? = some b := e
    by_cases hn : n < W.hs.length
    · rw [List.getElem?_append_left hn] at e
      refine (h.ok.hnd n b e).map rfl ?_ fun mo g3 => (g3.other fun z => f2 (by rw [← z]; exact List.mem_of_getElem? e)).mono le
      show (s.sto ++ _)[n]? = _
      rw [List.getElem?_append_left (by rw [h.ok.len]; exact hn)]
    · rw [List.getElem?_append_right (by omega)] at e
      have hz : n - W.hs.length = 0 := by
        have := (List.getElem?_eq_some_iff.mp e).1
        simp at this
        omega
      rw [hz] at e
      cases e
      refine .inl ⟨f1, .dic q, ?_, .dic upd_same (k.mono le)⟩
      show (s.sto ++ [MO.dic q])[n]? = _
      rw [List.getElem?_append_right (by rw [h.ok.len]; omega), h.ok.len, hz]
      rfl
  · show (W.hs ++ [p]).Nodup
    rw [List.nodup_append]
    exact ⟨h.ok.nd, by simp, fun a ha b hb => by
      rw [List.mem_singleton] at hb
      subst hb
      exact fun z => f2 (by rw [← z]; exact ha)⟩
  · show (s.sto ++ _).length = (W.hs ++ _).length
    rw [List.length_append, List.length_append, h.ok.len]
    rfl
  · rw [upd_ne (fun z => by rw [z, f3] at e; cases e)]
    exact h.keep b u e hb
  · obtain ⟨g1, g2⟩ := h.gro b hb
    refine ⟨g1, fun hm => ?_⟩
    rcases List.mem_append.mp hm with hm | hm
    · exact g2 hm
    · rw [List.mem_singleton] at hm
      rw [hm] at hb
      exact absurd f3 hb
  · obtain ⟨v, e1, r⟩ := h.val j e he
    exact ⟨v, e1, r.mono le⟩
  · obtain ⟨b, ws, e1, ow, e2, r2⟩ := h.own j ys e
    have hb : b ≠ p := ne_of_none e2 hp
    refine ⟨b, ws, e1, ⟨ow.f, fun hm => ?_, ow.g⟩, by rw [upd_ne hb]; exact e2, r2.mono le⟩
    rcases List.mem_append.mp hm with hm | hm
    · exact ow.h hm
    · exact hb (List.mem_singleton.mp hm)
  · show (W.hs ++ [p])[s.sto.length]? = _
    rw [h.ok.len, List.getElem?_append_right (Nat.le_refl _), Nat.sub_self]
    rfl
/-! ### {'k': e, ..}: a new handle -/
def prsM : List (Str × M PV) → M (List (Key × PV))
  | [] => ret []
  | (k, c) :: r => bnd c fun d => bnd (prsM r) fun ds => ret ((.inr k, d) :: ds)
def trsOf (K : PySem.W.Frag) (Y : WX) (kcs : List (Str × M PV)) : List (TE × TE) := kcs.map fun p => (tC (.str p.1), den K Y p.2)
def dispM (kcs : List (Str × M PV)) : M PV := bnd (prsM kcs) fun kvs s => if kvs.length ≤ 15 then .ok (.hnd s.sto.length) { s with sto := s.sto ++ [.dic (mergeP [] kvs)] } else .stk
theorem den_prs : ∀ (kcs : List (Str × M PV)) {C : Ctx} {W : Vw} {s : S} {H : Hp} {QP : List (V × V) → Hp → Prop}, At K (C.wi Y) W s σ H →
    Pst K (C.wi Y) W σ (prsM kcs s) (fun kvs _ W' H' => ∀ r : List (Key × V), KVs K W' r kvs → QP (r.map fun kv => (kV kv.1, kv.2)) H') → tPairs (trsOf K Y kcs) σ H QP
  | [], C, W, s, H, QP, at', p => p W H (Vw.Le.refl _) at' [] .nil
  | (k, c) :: r, C, W, s, H, QP, at', p => by
    refine ⟨C, W, s, at', (Pst.bnd p).imp fun d s1 W1 H1 l1 at1 p1 v rv => ?_⟩
    refine den_prs r at1 ((Pst.bnd p1).imp fun kvs s2 W2 H2 l2 at2 p2 q hq => ?_)
    exact p2 W2 H2 (Vw.Le.refl _) at2 ((.inr k, v) :: q) (.cons (rv.mono l2) hq)
theorem den_disp {kcs : List (Str × M PV)} (h : den K Y (dispM kcs) σ H Q) : tDisp (trsOf K Y kcs) σ H Q := by
  obtain ⟨C, W, s, at', p⟩ := h
  intro q hq
  obtain ⟨hG, hh⟩ := at'.nohs hq
  have p1 := (Pst.bnd p).res (o := .dK []) hG hh
  refine den_prs (C := C.res q (.dK [])) kcs (at'.resIn hq (.dK [])) (p1.imp fun kvs s1 W1 H1 l1 at1 p2 r hr => ?_)
  obtain ⟨e1, e2, at2⟩ := at1.resOut hG hh
  have hp : H1 q = some (.dK []) := (at1.keep q _ upd_same hh).eq fun _ z => nomatch z
  refine ⟨hp, r, rfl, ?_⟩
  split at p2
  · rename_i hl
    refine ⟨by rw [hr.length]; exact hl, ?_⟩
    obtain ⟨l3, at3, r3⟩ := at2.newH e1 (KVs.merge hr .nil)
    have p3 := p2 _ _ l3 at3 _ r3
    have e3 : upd (del H1 q) q (.dK (mergeK [] r)) = upd H1 q (.dK (mergeK [] r)) := by
      rw [← e2, upd_upd, e2]
    rw [e3] at p3
    exact p3
  · exact p2.elim
/-! ### the slots of a block forgotten -/
def wip (e : Env) : List Nat → Env
  | [] => e
  | v :: vs => (wip e vs).set v none
theorem wip_length (e : Env) : ∀ vs : List Nat, (wip e vs).length = e.length
  | [] => rfl
  | v :: vs => by unfold wip; rw [List.length_set, wip_length e vs]
theorem wip_some {e : Env} {j : Nat} {x : SV} : ∀ {vs : List Nat}, (wip e vs)[j]? = some (some x) → e[j]? = some (some x) ∧ j ∉ vs
  | [], h => ⟨h, by simp⟩
  | v :: vs, h => by
    unfold wip at h
    by_cases hi : v = j
    · subst hi
      by_cases hv : v < (wip e vs).length
      · rw [List.getElem?_set_self hv] at h; cases h
      · rw [List.getElem?_eq_none (by simpa using hv)] at h; cases h
    · rw [List.getElem?_set_ne hi] at h
      obtain ⟨h1, h2⟩ := wip_some h
      exact ⟨h1, by simp only [List.mem_cons, not_or]; exact ⟨fun e => hi e.symm, h2⟩⟩
theorem wipe_in {σ : L2.St} {j : Nat} : ∀ {vs : List Nat}, j ∈ vs → j < σ.length → (wipe σ vs)[j]? = some none
  | v :: vs, h, hl => by
    unfold wipe
    by_cases hi : v = j
    · subst hi
      exact List.getElem?_set_self (by rw [wipe_length]; exact hl)
    · rw [List.getElem?_set_ne hi]
      exact wipe_in ((List.mem_cons.mp h).resolve_left fun e => hi e.symm) hl
theorem wipe_ext {σ τ : L2.St} {vs : List Nat} (hl : σ.length = τ.length) (h : ∀ j, j ∉ vs → σ[j]? = τ[j]?) : wipe σ vs = wipe τ vs := by
  apply List.ext_getElem?
  intro j
  by_cases hj : j ∈ vs
  · by_cases hlt : j < σ.length
    · rw [wipe_in hj hlt, wipe_in hj (by omega)]
    · rw [List.getElem?_eq_none (by rw [wipe_length]; omega), List.getElem?_eq_none (by rw [wipe_length]; omega)]
  · rw [wipe_out hj, wipe_out hj]
    exact h j hj
theorem At.weak {e' : Env} {σ' : L2.St} (h : At K C W s σ H) (hl : e'.length = s.env.length) (hl2 : σ'.length = σ.length) (hs : ∀ (j : Nat) (sv : SV), e'[j]? = some (some sv) → s.env[j]? = some (some sv) ∧ σ'[j]? = σ[j]?) : At K C W { s with env := e' } σ' H := by
  refine ⟨h.ok, h.keep, h.pre, h.gro, by rw [hl2, h.len]; exact hl.symm, fun j d e => ?_, fun j xs e => ?_, fun j k xs ys a h1 h2 h3 h4 => ?_⟩
  · obtain ⟨e1, e2⟩ := hs j _ e
    rw [e2]
    exact h.val j d e1
  · obtain ⟨e1, e2⟩ := hs j _ e
    rw [e2]
    exact h.own j xs e1
  · obtain ⟨e1, e2⟩ := hs j _ h1
    obtain ⟨e3, e4⟩ := hs k _ h2
    rw [e2] at h3
    rw [e4] at h4
    exact h.dst j k xs ys a e1 e3 h3 h4
theorem At.wipeS (h : At K C W s σ H) (vs : List Nat) : At K C W { s with env := wip s.env vs } (L2.wipe σ vs) H :=
  h.weak (wip_length _ _) (wipe_length _ _) fun j sv e => ⟨(wip_some e).1, wipe_out (wip_some e).2⟩
theorem At.unwipe {vs : List Nat} (h : At K C W s (wipe σ vs) H) : At K C W { s with env := wip s.env vs } σ H :=
  h.weak (wip_length _ _) (wipe_length _ _).symm fun j sv e => ⟨(wip_some e).1, (wipe_out (wip_some e).2).symm⟩
theorem wip_wip (e : Env) (vs : List Nat) : wip (wip e vs) vs = wip e vs := by
  have hin : ∀ {e : Env} {j : Nat} {vs : List Nat}, j ∈ vs → j < e.length → (wip e vs)[j]? = some none := by
    intro e j vs
    induction vs with
    | nil => intro h; cases h
    | cons v vs ih =>
      intro h hl
      unfold wip
      by_cases hi : v = j
      · subst hi
        exact List.getElem?_set_self (by rw [wip_length]; exact hl)
      · rw [List.getElem?_set_ne hi]
        exact ih ((List.mem_cons.mp h).resolve_left fun e => hi e.symm) hl
  have hout : ∀ {e : Env} {j : Nat} {vs : List Nat}, j ∉ vs → (wip e vs)[j]? = e[j]? := by
    intro e j vs
    induction vs with
    | nil => intro _; rfl
    | cons v vs ih =>
      intro h
      unfold wip
      rw [List.getElem?_set_ne (fun z => h (by rw [z]; exact List.mem_cons_self))]
      exact ih fun m => h (List.mem_cons_of_mem _ m)
  apply List.ext_getElem?
  intro j
  by_cases hj : j ∈ vs
  · by_cases hlt : j < e.length
    · rw [hin hj (by rw [wip_length]; exact hlt), hin hj hlt]
    · rw [List.getElem?_eq_none (by rw [wip_length, wip_length]; omega), List.getElem?_eq_none (by rw [wip_length]; omega)]
  · rw [hout hj]
/-! ### what is walked -/
structure Walks (K : PySem.W.Frag) (J : It) (W : Vw) (xs : List PV) : Prop where
  go : ∀ {C : Ctx} {W' : Vw} {s : S} {σ : L2.St} {H : Hp} {i : Nat}, W.Le W' → At K C W' s σ H → i < xs.length → J.go i H
  yld : ∀ {C : Ctx} {W' : Vw} {s : S} {σ : L2.St} {H H' : Hp} {i : Nat} {x : V}, W.Le W' → At K C W' s σ H → i < xs.length → J.yld i H x H' → ∃ d W'', xs[i]? = some d ∧ W'.Le W'' ∧ At K C W'' s σ H' ∧ Rep K W'' x d
  stop : ∀ {C : Ctx} {W' : Vw} {s : S} {σ : L2.St} {H : Hp} {i : Nat}, W.Le W' → At K C W' s σ H → xs.length ≤ i → J.stop i H
def SrcOk (Y : WX) (wi : TI) (K : PySem.W.Frag) (c : M (List PV)) : Prop := ∀ (σ : L2.St) (H : Hp) (R : It → Hp → Prop), (∃ (C : Ctx) (W : Vw) (s : S), At K (C.wi Y) W s σ H ∧ Pst K (C.wi Y) W σ (c s) (fun xs _ W' H' => ∀ J, Walks K J W' xs → R J H')) → wi σ H R
theorem walks_lst {a : Addr} {vs : List V} {ds : List PV} (h : W.F a = some (.lst vs)) (r : Reps K W vs ds) : Walks K (Itl K a) W ds where
  go := fun {C W' s σ H i} l at' hi => by
    have e := at'.ok.sub _ _ (l.ex _ _ h)
    have hi' : i < vs.length := by rw [r.length]; exact hi
    exact ⟨vs, vs[i], SqL.of e, List.getElem?_eq_getElem hi'⟩
  yld := fun {C W' s σ H H' i x} l at' hi y => by
    obtain ⟨e, y⟩ := y
    subst e
    have e := at'.ok.sub _ _ (l.ex _ _ h)
    have hx := y vs (SqL.of e)
    obtain ⟨d, h1, h2⟩ := r.getV hx
    exact ⟨d, W', h1, Vw.Le.refl _, at', h2.mono l⟩
  stop := fun {C W' s σ H i} l at' hi => ⟨vs, SqL.of (at'.ok.sub _ _ (l.ex _ _ h)), by rw [r.length]; exact hi⟩
theorem walks_tup {a : Addr} {vs : List V} {ds : List PV} (h : SqT K W.F a vs) (r : Reps K W vs ds) : Walks K (Itt K a) W ds where
  go := fun {C W' s σ H i} l at' hi => by
    have e := same_t at'.ok.sub (same_t l.ex h)
    have hi' : i < vs.length := by rw [r.length]; exact hi
    exact ⟨vs, vs[i], e, List.getElem?_eq_getElem hi'⟩
  yld := fun {C W' s σ H H' i x} l at' hi y => by
    obtain ⟨e, y⟩ := y
    subst e
    have e := same_t at'.ok.sub (same_t l.ex h)
    have hx := y vs e
    obtain ⟨d, h1, h2⟩ := r.getV hx
    exact ⟨d, W', h1, Vw.Le.refl _, at', h2.mono l⟩
  stop := fun {C W' s σ H i} l at' hi => ⟨vs, same_t at'.ok.sub (same_t l.ex h), by rw [r.length]; exact hi⟩
theorem walks_rng {lo : Int} {n : Nat} : Walks K (Itr lo n) W ((List.range n).map fun (k : Nat) => PV.int (lo + (k : Int))) where
  go := fun {C W' s σ H i} l at' hi => by show i < n; simpa using hi
  yld := fun {C W' s σ H H' i x} l at' hi y => by
    obtain ⟨e, y⟩ := y
    subst e y
    have hi : i < n := by simpa using hi
    exact ⟨.int (lo + i), W', by simp [hi], Vw.Le.refl _, at', .int _⟩
  stop := fun {C W' s σ H i} l at' hi => by show n ≤ i; simpa using hi
def signsP (x : Str) : List PV := x.cps.toList.map fun c => .str ⟨#[c]⟩
theorem walks_str {x : Str} : Walks K (Its x) W (signsP x) where
  go := fun {C W' s σ H i} l at' hi => by
    show i < x.cps.size
    simpa [signsP] using hi
  yld := fun {C W' s σ H H' i v} l at' hi y => by
    obtain ⟨e, c, hc, ev⟩ := y
    subst e ev
    refine ⟨.str ⟨#[c]⟩, W', ?_, Vw.Le.refl _, at', .str _⟩
    unfold signsP
    rw [List.getElem?_map, Array.getElem?_toList, hc]
    rfl
  stop := fun {C W' s σ H i} l at' hi => by
    show x.cps.size ≤ i
    simpa [signsP] using hi
def itemsP : PV → Option (List PV)
  | .lst xs => some xs
  | .tup xs => some xs
  | .str x => some (signsP x)
  | _ => none
def itemsM (c : M PV) : M (List PV) := bnd c fun d => lft (itemsP d)
def iU (K : PySem.W.Frag) (te : TE) : TI := fun σ H R => (iList K te σ H R ∨ iTup K te σ H R) ∨ iStr te σ H R
theorem pi_u {X : Cx} {tg e : Expr} {te : TE} (h : PE X e te) : PI X tg e (iU X.K te) := ⟨fun pins s σ H R I q => by
  rcases q with (q | q) | q
  · exact (pi_list h).run pins s σ H R I q
  · exact (pi_tup h).run pins s σ H R I q
  · exact (pi_str h).run pins s σ H R I q⟩
theorem src_u : SrcOk Y (iU K (den K Y ca)) K (itemsM ca) := by
  intro σ H R ⟨C, W, s, at', p⟩
  have p := Pst.bnd p
  cases e : ca s with
  | exc _ _ => exact .inl (.inl ⟨C, W, s, at', by rw [e] at p ⊢; exact p⟩)
  | stk => rw [e] at p; exact p.elim
  | ok d s1 =>
    cases d with
    | lst xs =>
      refine .inl (.inl ⟨C, W, s, at', ?_⟩)
      rw [e] at p ⊢
      intro W1 H1 l1 at1 v rv
      have p1 := p W1 H1 l1 at1 W1 H1 (Vw.Le.refl _) at1
      cases rv with
      | lst hx rx => exact ⟨_, rfl, ⟨_, SqL.of (at1.ok.sub _ _ hx)⟩, p1 _ (walks_lst hx rx)⟩
    | tup xs =>
      refine .inl (.inr ⟨C, W, s, at', ?_⟩)
      rw [e] at p ⊢
      intro W1 H1 l1 at1 v rv
      have p1 := p W1 H1 l1 at1 W1 H1 (Vw.Le.refl _) at1
      cases rv with
      | tup hx rx => exact ⟨_, rfl, ⟨_, same_t at1.ok.sub hx⟩, p1 _ (walks_tup hx rx)⟩
    | str x =>
      refine .inr ⟨C, W, s, at', ?_⟩
      rw [e] at p ⊢
      intro W1 H1 l1 at1 v rv
      have p1 := p W1 H1 l1 at1 W1 H1 (Vw.Le.refl _) at1
      cases rv
      exact ⟨_, rfl, p1 _ walks_str⟩
    | _ =>
      refine .inl (.inl ⟨C, W, s, at', ?_⟩)
      rw [e] at p ⊢
      intro W1 H1 l1 at1
      exact (p W1 H1 l1 at1).elim
def rngP : PV → Option (List PV)
  | .int j => if -(2 ^ 62) ≤ j ∧ j < 2 ^ 62 then some ((List.range j.toNat).map fun (k : Nat) => PV.int (0 + (k : Int))) else none
  | _ => none
def rngM (c : M PV) : M (List PV) := bnd c fun d => lft (rngP d)
theorem src_rng : SrcOk Y (iRng1 (tCons (den K Y ca) tNil)) K (rngM ca) := by
  intro σ H R ⟨C, W, s, at', p⟩
  refine ⟨C, W, s, at', (Pst.bnd p).imp fun d s1 W1 H1 l1 at1 p1 v rv => ?_⟩
  obtain ⟨e', he, q⟩ := p1.lft'
  unfold rngP at he
  split at he
  · split at he
    · rename_i hj
      cases he
      cases rv
      exact ⟨_, rfl, hj.1, hj.2, q W1 H1 (Vw.Le.refl _) at1 _ walks_rng⟩
    · cases he
  · cases he
/-! ### [e for x in xs if t] -/
def lcGo (i : Nat) (vs : List Nat) (cond : M Bool) (elt : M PV) : List PV → List PV → M (List PV)
  | [], acc => ret acc
  | x :: r, acc => fun s => match cond { s with env := s.env.set i (some (.val x)) } with
    | .ok true s1 => match elt s1 with
      | .ok y s2 => if acc.length < sizeLine then lcGo i vs cond elt r (acc ++ [y]) { s2 with env := wip s2.env vs } else .stk
      | .exc _ _ => .stk
      | .stk => .stk
    | .ok false s1 => lcGo i vs cond elt r acc { s1 with env := wip s1.env vs }
    | .exc _ _ => .stk
    | .stk => .stk
def lcM (cs : M (List PV)) (i : Nat) (vs : List Nat) (cond : M Bool) (elt : M PV) : M (List PV) := bnd cs fun xs s => lcGo i vs cond elt xs [] { s with env := wip s.env vs }
theorem den_lc {Y' : WX} {wi : TI} {cs : M (List PV)} {vs : List Nat} {cond : M Bool} {elt : M PV} (hw : SrcOk Y wi K cs) (hi : i ∈ vs) (h : denO K Y (lcM cs i vs cond elt) σ H Q) : tLc wi (gName i) (denT K Y' cond) (den K Y' elt) vs σ H Q := by
  obtain ⟨C, W, s, at', p⟩ := h
  refine hw σ H _ ⟨C, W, s, at', (Pst.bnd p).imp fun xs s1 W1 H1 l1 at1 p1 J wk => ?_⟩
  intro D hD
  obtain ⟨hG, hh⟩ := at1.nohs hD
  refine ⟨fun k m H => k ≤ xs.length ∧ m = xs.length - k ∧ ∃ acc accV s2 W2, W1.Le W2 ∧ At K ((C.wi Y).res D (.lst accV)) W2 s2 (wipe σ vs) H ∧ wip s2.env vs = s2.env ∧ Reps K W2 accV acc ∧ Pst K (C.wi Y) W2 σ (lcGo i vs cond elt (xs.drop k) acc s2) (WantL K Q),
    ⟨xs.length, Nat.zero_le _, by simp, [], [], _, W1, Vw.Le.refl _, (at1.resIn hD (.lst [])).wipeS vs, wip_wip _ _, .nil, p1⟩, ?_⟩
  rintro k m H2 ⟨hk, rfl, acc, accV, s2, W2, l2, at2, hw2, ra, p2⟩
  by_cases hlt : k < xs.length
  · refine .inr ⟨wk.go l2 at2 hlt, fun H' => ∃ acc accV s2 W2, W1.Le W2 ∧ At K ((C.wi Y).res D (.lst accV)) W2 s2 (wipe σ vs) H' ∧ wip s2.env vs = s2.env ∧ Reps K W2 accV acc ∧ Pst K (C.wi Y) W2 σ (lcGo i vs cond elt (xs.drop (k + 1)) acc s2) (WantL K Q),
      fun H' q => ⟨xs.length - (k + 1), by omega, hlt, rfl, q⟩, fun x H' y => ?_⟩
    obtain ⟨d, W3, hd, l3, at3, rd⟩ := wk.yld l2 at2 hlt y
    have hdrop : xs.drop k = d :: xs.drop (k + 1) := by
      obtain ⟨h1, h2⟩ := List.getElem?_eq_some_iff.mp hd
      rw [List.drop_eq_getElem_cons h1, h2]
    rw [hdrop] at p2
    have at4 : At K ((C.wi Y).res D (.lst accV)) W3 { s2 with env := s2.env.set i (some (.val d)) } ((wipe σ vs).set i (some x)) H' := at3.set rd i
    have hw' : ∀ {τ : L2.St}, τ = (wipe σ vs).set i (some x) → wipe τ vs = wipe σ vs := by
      intro τ e
      subst e
      apply wipe_ext
      · rw [List.length_set, wipe_length]
      · intro j hj
        rw [List.getElem?_set_ne (fun z => hj (by rw [← z]; exact hi)), wipe_out hj]
    have toWipe : ∀ {C' : Ctx} {W' : Vw} {s' : S} {H' : Hp}, At K C' W' s' ((wipe σ vs).set i (some x)) H' → At K C' W' { s' with env := wip s'.env vs } (wipe σ vs) H' := fun {C' W' s' H'} a =>
      a.weak (wip_length _ _) (by rw [List.length_set]) fun j sv e => ⟨(wip_some e).1, by rw [List.getElem?_set_ne (fun z => (wip_some e).2 (by rw [← z]; exact hi))]⟩
    refine ⟨hw' rfl, C.res D (.lst accV), W3, _, at4.wi Y', ?_⟩
    have p3 : Pst K (C.wi Y) W3 σ (lcGo i vs cond elt (d :: xs.drop (k + 1)) acc s2) (WantL K Q) := p2.up l3
    cases ec : cond { s2 with env := s2.env.set i (some (.val d)) } with
    | exc e s3 =>
      unfold lcGo at p3
      simp only [ec] at p3
      exact p3.elim
    | stk =>
      unfold lcGo at p3
      simp only [ec] at p3
      exact p3.elim
    | ok b s3 =>
      intro W4 H4 l4 at5'
      have at5 : At K ((C.wi Y).res D (.lst accV)) W4 s3 _ H4 := at5'.wi Y
      cases b with
      | false =>
        unfold lcGo at p3
        simp only [ec] at p3
        show ∃ acc accV s2 W2, _
        exact ⟨acc, accV, _, W4, (l2.trans l3).trans l4, toWipe at5, wip_wip _ _, ra.mono (l3.trans l4), p3.up l4⟩
      | true =>
        unfold lcGo at p3
        simp only [ec] at p3
        show den K Y' elt _ H4 _
        refine ⟨C.res D (.lst accV), W4, s3, at5', ?_⟩
        cases ee : elt s3 with
        | exc e s4 => simp only [ee] at p3; exact p3.elim
        | stk => simp only [ee] at p3; exact p3.elim
        | ok y4 s4 =>
          simp only [ee] at p3
          split at p3
          · rename_i hsz
            intro W5 H5 l5 at6' v rv
            have at6 : At K ((C.wi Y).res D (.lst accV)) W5 s4 _ H5 := at6'.wi Y
            have hHD : H5 D = some (.lst accV) := (at6.keep D _ upd_same hh).eq fun _ z => nomatch z
            refine ⟨accV, hHD, by rw [ra.length]; exact hsz, acc ++ [y4], accV ++ [v], _, W5, ((l2.trans l3).trans l4).trans l5, ?_, wip_wip _ _, (ra.mono ((l3.trans l4).trans l5)).append (.cons rv .nil), p3.up (l4.trans l5)⟩
            have at7 := toWipe at6
            obtain ⟨e1, e2, at8⟩ := at7.resOut hG hh
            have at9 := at8.resIn e1 (.lst (accV ++ [v]))
            have e3 : upd (del H5 D) D (.lst (accV ++ [v])) = upd H5 D (.lst (accV ++ [v])) := by
              rw [← e2, upd_upd, e2]
            rw [e3] at at9
            exact at9
          · exact p3.elim
  · have e : k = xs.length := by omega
    subst e
    refine .inl ⟨wk.stop l2 at2 (Nat.le_refl _), ?_⟩
    rw [List.drop_length] at p2
    obtain ⟨e1, e2, at3⟩ := at2.resOut hG hh
    have at4 := at3.unwipe
    rw [hw2] at at4
    have q := p2 W2 _ (Vw.Le.refl _) at4 D accV e1 ra
    rw [e2] at q
    exact q
end
/-! ### statements -/
section
variable {Y : WX} {K : PySem.W.Frag} {C : Ctx} {W W' : Vw} {σ : L2.St} {H : Hp} {s : S} {D : Ends} {i j k : Nat} {ca cb cd : M PV} {ta tb : TS} {fa fb : M Fl}
def skipM : M Fl := ret .nx
theorem den_skip (h : denS K Y skipM D σ H) : tNext D σ H := by
  obtain ⟨C, W, s, at', p⟩ := h
  exact p W σ H (Vw.Le.refl _) at'
def seqM (a b : M Fl) : M Fl := fun s => match a s with
  | .ok .nx s' => b s'
  | .ok fl s' => .ok fl s'
  | .exc e s' => .exc e s'
  | .stk => .stk
theorem den_seq (h : denS K Y (seqM fa fb) D σ H) : tSeq (denS K Y fa) (denS K Y fb) D σ H := by
  obtain ⟨C, W, s, at', p⟩ := h
  refine ⟨C, W, s, at', ?_⟩
  unfold seqM at p
  cases e : fa s with
  | exc _ _ => rw [e] at p; exact p
  | stk => rw [e] at p; exact p.elim
  | ok fl s1 =>
    rw [e] at p
    cases fl with
    | nx => exact fun W1 σ1 H1 l1 at1 => ⟨C, W1, s1, at1, p.up l1⟩
    | rt d => exact fun W1 σ1 H1 l1 at1 => p W1 σ1 H1 l1 at1
    | bk => exact fun W1 σ1 H1 l1 at1 => p W1 σ1 H1 l1 at1
    | ct => exact fun W1 σ1 H1 l1 at1 => p W1 σ1 H1 l1 at1
    | ro d => exact fun W1 σ1 H1 l1 at1 => p W1 σ1 H1 l1 at1
def ifM (t : M Bool) (a b : M Fl) : M Fl := bnd t fun x => if x = true then a else b
theorem den_if {t : M Bool} (h : denS K Y (ifM t fa fb) D σ H) : tIfS (denT K Y t) (denS K Y fa) (denS K Y fb) D σ H := by
  obtain ⟨C, W, s, at', p⟩ := h
  refine ⟨C, W, s, at', (PstS.bnd p).imp fun x s1 W1 H1 l1 at1 p1 => ?_⟩
  cases x with
  | true => exact ⟨C, W1, s1, at1, p1⟩
  | false => exact ⟨C, W1, s1, at1, p1⟩
def retM (c : M PV) : M Fl := bnd c fun d => ret (.rt d)
theorem den_return (h : denS K Y (retM ca) D σ H) : tRet (den K Y ca) D σ H := by
  obtain ⟨C, W, s, at', p⟩ := h
  exact ⟨C, W, s, at', (PstS.bnd p).imp fun x s1 W1 H1 l1 at1 p1 => p1 W1 σ H1 (Vw.Le.refl _) at1⟩
def dropM (c : M PV) : M Fl := bnd c fun _ => ret .nx
theorem den_drop (h : denS K Y (dropM ca) D σ H) : tDrop (den K Y ca) D σ H := by
  obtain ⟨C, W, s, at', p⟩ := h
  exact ⟨C, W, s, at', (PstS.bnd p).imp fun x s1 W1 H1 l1 at1 p1 v _ => p1 W1 σ H1 (Vw.Le.refl _) at1⟩
def setV (i : Nat) (d : PV) : M Unit := fun s => .ok () { s with env := s.env.set i (some (.val d)) }
def setO (i : Nat) (xs : List PV) : M Unit := fun s => .ok () { s with env := s.env.set i (some (.own xs)) }
def asgM (i : Nat) (c : M PV) : M Fl := bnd c fun d => bnd (setV i d) fun _ => ret .nx
theorem den_asg (h : denS K Y (asgM i ca) D σ H) : tAsg (den K Y ca) (gName i) D σ H := by
  obtain ⟨C, W, s, at', p⟩ := h
  exact ⟨C, W, s, at', (PstS.bnd p).imp fun x s1 W1 H1 l1 at1 p1 v rv => p1 W1 _ H1 (Vw.Le.refl _) (at1.set rv i)⟩
/-! two, three names at once -/
def par2VO (i j : Nat) (ca : M PV) (cb : M (List PV)) : M Fl := bnd ca fun a => bnd cb fun b => bnd (setV i a) fun _ => bnd (setO j b) fun _ => ret .nx
theorem den_par2VO {cb : M (List PV)} (h : denS K Y (par2VO i j ca cb) D σ H) : tPar i j (tCons (den K Y ca) (tCons (denO K Y cb) tNil)) D σ H := by
  obtain ⟨C, W, s, at', p⟩ := h
  refine ⟨C, W, s, at', (PstS.bnd p).imp fun x s1 W1 H1 l1 at1 p1 v rv => ⟨C, W1, s1, at1, (PstS.bnd p1).imp fun y s2 W2 H2 l2 at2 p2 q vs hq rvs => ?_⟩⟩
  exact ⟨v, _, rfl, p2 W2 _ _ (Vw.Le.refl _) ((at2.set (rv.mono l2) i).setO hq rvs j)⟩
def par3 (i j k : Nat) (ca cb cd : M PV) : M Fl := bnd ca fun a => bnd cb fun b => bnd cd fun d => bnd (setV i a) fun _ => bnd (setV j b) fun _ => bnd (setV k d) fun _ => ret .nx
theorem den_par3 (h : denS K Y (par3 i j k ca cb cd) D σ H) : tPar3 i j k (tCons (den K Y ca) (tCons (den K Y cb) (tCons (den K Y cd) tNil))) D σ H := by
  obtain ⟨C, W, s, at', p⟩ := h
  refine ⟨C, W, s, at', (PstS.bnd p).imp fun x s1 W1 H1 l1 at1 p1 v rv => ⟨C, W1, s1, at1, (PstS.bnd p1).imp fun y s2 W2 H2 l2 at2 p2 w rw' => ⟨C, W2, s2, at2, (PstS.bnd p2).imp fun z s3 W3 H3 l3 at3 p3 u ru => ?_⟩⟩⟩
  exact ⟨v, w, u, rfl, p3 W3 _ H3 (Vw.Le.refl _) (((at3.set (rv.mono (l2.trans l3)) i).set (rw'.mono l3) j).set ru k)⟩
/-! ### for, while -/
def forM (i : Nat) (body : M Fl) : List PV → M Fl
  | [] => ret .nx
  | x :: r => fun s => match body { s with env := s.env.set i (some (.val x)) } with
    | .ok .nx s' => forM i body r s'
    | .ok .ct s' => forM i body r s'
    | .ok .bk s' => .ok .nx s'
    | .ok (.rt d) s' => .ok (.rt d) s'
    | .ok (.ro d) s' => .ok (.ro d) s'
    | .exc e s' => .exc e s'
    | .stk => .stk
def loopM (cs : M (List PV)) (i : Nat) (body : M Fl) : M Fl := bnd cs fun xs => forM i body xs
theorem den_for {wi : TI} {cs : M (List PV)} (hw : SrcOk Y wi K cs) (h : denS K Y (loopM cs i fa) D σ H) : tFor wi (gName i) (denS K Y fa) D σ H := by
  obtain ⟨C, W, s, at', p⟩ := h
  refine hw σ H _ ⟨C, W, s, at', (PstS.bnd p).imp fun xs s1 W1 H1 l1 at1 p1 J wk => ?_⟩
  refine ⟨fun k m σ H => k ≤ xs.length ∧ m = xs.length - k ∧ ∃ s2 W2, W1.Le W2 ∧ At K (C.wi Y) W2 s2 σ H ∧ PstS K (C.wi Y) W2 D (forM i fa (xs.drop k) s2), ⟨xs.length, Nat.zero_le _, by simp, s1, W1, Vw.Le.refl _, at1, p1⟩, ?_⟩
  rintro k m σ2 H2 ⟨hk, rfl, s2, W2, l2, at2, p2⟩
  by_cases hlt : k < xs.length
  · refine .inr ⟨wk.go l2 at2 hlt, fun σ' H' => ∃ s2 W2, W1.Le W2 ∧ At K (C.wi Y) W2 s2 σ' H' ∧ PstS K (C.wi Y) W2 D (forM i fa (xs.drop (k + 1)) s2), fun σ' H' q => ⟨xs.length - (k + 1), by omega, hlt, rfl, q⟩, fun x H' y => ?_⟩
    obtain ⟨d, W3, hd, l3, at3, rd⟩ := wk.yld l2 at2 hlt y
    have hdrop : xs.drop k = d :: xs.drop (k + 1) := by
      obtain ⟨h1, h2⟩ := List.getElem?_eq_some_iff.mp hd
      rw [List.drop_eq_getElem_cons h1, h2]
    rw [hdrop] at p2
    refine ⟨C, W3, _, at3.set rd i, ?_⟩
    have p3 := p2.up l3
    unfold forM at p3
    cases e : fa { s2 with env := s2.env.set i (some (.val d)) } with
    | exc _ _ => simp only [e] at p3; exact p3
    | stk => simp only [e] at p3; exact p3.elim
    | ok fl s4 =>
      simp only [e] at p3
      cases fl with
      | nx => exact fun W4 σ4 H4 l4 at4 => ⟨s4, W4, (l2.trans l3).trans l4, at4, p3.up l4⟩
      | ct => exact fun W4 σ4 H4 l4 at4 => ⟨s4, W4, (l2.trans l3).trans l4, at4, p3.up l4⟩
      | bk => exact fun W4 σ4 H4 l4 at4 => p3 W4 σ4 H4 l4 at4
      | rt r => exact fun W4 σ4 H4 l4 at4 => p3 W4 σ4 H4 l4 at4
      | ro r => exact fun W4 σ4 H4 l4 at4 => p3 W4 σ4 H4 l4 at4
  · have e : k = xs.length := by omega
    subst e
    rw [List.drop_length] at p2
    exact .inl ⟨wk.stop l2 at2 (Nat.le_refl _), p2 W2 σ2 H2 (Vw.Le.refl _) at2⟩
end
end Dn
/-! Den5: defs and their calls (with the guards known: repr), the law's end. -/
namespace Dn
open PySem L2 PySem.Spec PyProof.Rows
/-! ### a def's promise, where no list is being shown -/
structure FnG (P : Program) (w : World) (K : PySem.W.Frag) (mg : Str → Option Value) (base : Heap) (CX : CXT) (k : Nat) (f : Addr) (fd : FuncData) (ps : List Str) (sp : Sp) : Prop where
  len : ∀ vs H Q E, sp vs H Q E → vs.length = ps.length
  run : ∀ (A : Around) (outer : List PySem.Env) (s : Shared) (H : Hp) (args : Args) (us : List Value) (vs : List V) (Q : VK) (E : XK), A.guards = some [] → Room k A → Env0 P w K mg base A outer s H → BindsTo s fd args (ps.zip us) → Vals vs us → sp vs H Q E →
    codeAny (model P w) A (.call (.ref f) args) (CR CX outer P w H s Q E) s
theorem FnG.mono {P : Program} {w : World} {K : PySem.W.Frag} {mg : Str → Option Value} {base : Heap} {CX : CXT} {j k : Nat} {f : Addr} {fd : FuncData} {ps : List Str} {sp : Sp} (F : FnG P w K mg base CX j f fd ps sp) (h : j ≤ k) :
    FnG P w K mg base CX k f fd ps sp := ⟨F.len, fun A outer s H args us vs Q E hg hr => F.run A outer s H args us vs Q E hg (hr.mono h)⟩
theorem fn_ofG {CX : CXT} {P : Program} {w : World} {K : PySem.W.Frag} {mg : Str → Option Value} {base : Heap} {k : Nat} {f : Addr} {name qual : Str} {params : Arguments} {body : List Stmt} {scope : Scope} {dV kV doc pm cdv ct oc : Value} {an od : Option Addr}
    {osl : Array (Option Value)} {N ps : List Str} {sp : Sp} (lk : K.lookup f = some ⟨oc, od, .func (PySem.W.fnOf name qual params body scope dV kV doc pm an cdv ct), osl⟩) (hcd : PySem.W.codeIn K cdv qual = true) (S : FnScope N ps scope)
    (len : ∀ vs H Q E, sp vs H Q E → vs.length = ps.length)
    (hbody : ∀ (A : Around) (outer : List PySem.Env) (s : Shared) (H : Hp) (vs : List V) (Q : VK) (E : XK), (A.deeper (envOfC qual scope s.heap.objs.size f cdv)).guards = some [] → Room k (A.deeper (envOfC qual scope s.heap.objs.size f cdv)) → sp vs H Q E →
      ∃ t, PSs (cxOf CX P w K mg base N qual scope f cdv A outer s H E) body t ∧ t { nx := fun _ H' => Q .non H', rt := Q } (L2.start N vs) H) :
    FnG P w K mg base CX (k + 1) f (PySem.W.fnOf name qual params body scope dV kV doc pm an cdv ct) ps sp := by
  refine ⟨len, fun A outer s H args us vs Q E hgd hr e0 hb r hsp => ?_⟩
  have hl := len _ _ _ _ hsp
  have KX : K.In s.heap := e0.mod.kin.keeps fun b o e => (e0.bs b o e).1
  have lim : s.heap.NoLimit := e0.mod.nolimit.keeps fun b o e => (e0.bs b o e).1
  have hkind : ∀ y ∈ ps.zip us, scope.names.lookup y.1 = some .local ∨ (scope.names.lookup y.1 = some .cell ∧ ((cellsFrom (s.heap.objs.size + 1) scope.names []).lookup y.1).isSome = true) := fun ⟨n, v⟩ hy => by
    rcases S.par n (List.of_mem_zip hy).1 with q | q
    · exact .inl q
    · exact .inr ⟨q, PySem.W.cellsFrom_some _ _ _ (.inl q)⟩
  refine codeAny_call_function hr.depth (KX _ _ lk) rfl S.co S.gen rfl (PySem.W.codeRec_of KX hcd) (hb _ _ _ _ ?_)
  refine wpAny_newFunctionEnv_cells S.kind hkind fun env he s1 x => ?_
  subst he
  refine ⟨lim.keeps x.toInCall.keep, codeAny_func ?_⟩
  obtain ⟨t, ht, hq⟩ := hbody A outer s H vs Q E hgd (hr.deeper _) hsp
  have I : Inv (cxOf CX P w K mg base N qual scope f cdv A outer s H E) [] (L2.start N vs) H s1 := inv_start S hr.hd e0 hl r x
  refine wpAny_mono (ht.run [] s1 (L2.start N vs) H _ I hq) (fun fl s' hs => ?_) fun e s' hs => hs
  have fin : ∀ {σ' : L2.St} {H' : Hp} {v : V} {u : Value}, Inv (cxOf CX P w K mg base N qual scope f cdv A outer s H E) [] σ' H' s' → RelV v u → Q v H' → CE outer P w H s Q u s' :=
    fun {σ' H' v u} J rv q => ⟨v, H', J.os, J.bare, J.base, J.hok, rv, q⟩
  cases fl with
  | ret u =>
    obtain ⟨v, σ', H', J, rv, q⟩ := hs
    exact fin J rv q
  | next =>
    obtain ⟨σ', H', J, q⟩ := hs
    exact fin (v := V.non) (u := Value.none) J rfl q
  | brk =>
    obtain ⟨_, _, _, q⟩ := hs
    exact False.elim q
  | cont =>
    obtain ⟨_, _, _, q⟩ := hs
    exact False.elim q
/-! ### calls -/
section
variable {Y : WX} {X : Cx} {CX : CXT} {k : Nat} {f C : Addr} {fd : FuncData} {ps : List Str} {sp : Sp} {E : XK} {x m : Str} {p pos apos : Pos} {e o : Expr} {es : List Expr} {ta : TE} {t : TA}
/-- the def at f, called with what binds to us -/
theorem run_fnG {pins : List (Addr × Obj)} {σ : L2.St} {H : Hp} {s : Shared} {Q : VK} {us zs : List Value} {kw : List (Str × Value)} {vs : List V} (F : FnG X.prog X.w X.K X.mg X.base CX k f fd ps sp) (hgd : X.A.guards = some []) (hr : Room k X.A) (hx : PassesAt CX X σ E)
    (I : Inv X pins σ H s) (hb : BindsTo s fd ⟨us, kw⟩ (ps.zip zs)) (r : Vals vs zs) (h : sp vs H Q E) : wpAny (model X.prog X.w) X.A (call (.ref f) us kw) (EP X pins σ Q) X.xe s := by
  have go := F.run X.A X.stack s H ⟨us, kw⟩ zs vs Q E hgd hr I.env0 hb r h
  refine wpAny_call (codeAny_mono go fun res s' hq => ?_)
  match res, hq with
  | .error e, hq => exact hx pins H s e s' I hq
  | .ok (.ret u), hq => exact I.after hq
  | .ok .next, hq => exact False.elim hq
  | .ok .brk, hq => exact False.elim hq
  | .ok .cont, hq => exact False.elim hq
/-- f(e, ..) -/
theorem pe_callG {E : L2.St → XK} (F : FnG X.prog X.w X.K X.mg X.base CX k f fd ps sp) (hgd : X.A.guards = some []) (hr : Room k X.A) (hg : Gl X x) (hm : X.mg x = some (.ref f)) (hk : PySem.W.keepIn X.K (.ref f) = true) (hb : Binds X.K fd ps []) (hx : ∀ σ, PassesAt CX X σ (E σ))
    (ha : PA X (e :: es) t) (hdb : (x == ("__debug__" : Str)) = false := by decide) (he : starEach (e :: es) X.env = (false, eval e X.env) :: starEach es X.env := by rfl) (hpl : (backTo pos (starEach es X.env)).any (·.1) = false := by rfl) :
    PE X (.Call (.Name x p) (e :: es) [] pos) (tCallS sp E t) := by
  refine ⟨fun pins s σ H Q I h => wpAny_Call_Name_kw (ld_glob I hg hm ?_ hdb)⟩
  have I0 := I.ok.mod.kin
  refine PySem.W.callWith_K (h₀ := X.base) I0 hk (thn (ha.run pos pins s σ H _ I h) ?_) he hpl
  rintro us s1 ⟨vs, H1, I1, r, q⟩
  have hl : (us ++ []).length = ps.length := by rw [List.append_nil, ← r.length]; exact F.len _ _ _ _ q
  have bd := hb s1 us I1.kIn hl
  rw [List.append_nil] at bd
  exact ⟨I1.kIn, run_fnG F hgd hr (hx σ) I1 bd r q⟩
end
/-! ### promises by computations -/
abbrev RR := Res (List MO) PV
abbrev Fn := Nat → List PV → List MO → RR
structure Grow (W W' : Vw) (H H' : Hp) : Prop where
  keep : ∀ a o, H a = some o → a ∉ W.hs → Kp o (H' a)
  gro : ∀ a, H a ≠ none → W'.F a = W.F a ∧ (a ∈ W'.hs → a ∈ W.hs)
def SpPost (K : PySem.W.Frag) (W : Vw) (H : Hp) (Q : VK) (E : XK) : RR → Prop
  | .ok d st' => ∀ v W' H', W.Le W' → Okk K W' st' H' → Grow W W' H H' → Rep K W' v d → Q v H'
  | .exc e st' => ∀ W' H' cls d, W.Le W' → Okk K W' st' H' → Grow W W' H H' → ERep K W' cls d e → E cls d H'
  | .stk => False
def spM (K : PySem.W.Frag) (np : Nat) (m : Fn) : Sp := fun vs H Q E => vs.length = np ∧ ∃ n W st ds, Okk K W st H ∧ Reps K W vs ds ∧ SpPost K W H Q E (m n ds st)
def callM (m : Fn) (n : Nat) (cs : M (List PV)) : M PV := bnd cs fun ds s => match m n ds s.sto with
  | .ok d st' => .ok d { s with sto := st' }
  | .exc e st' => .exc e { s with sto := st' }
  | .stk => .stk
section
variable {Y : WX} {K : PySem.W.Frag} {C : Ctx} {W W' : Vw} {σ : L2.St} {H H' : Hp} {s : S} {Q : VK} {E : XK} {np n : Nat} {m : Fn} {cs : M (List PV)}
theorem At.call {st' : List MO} (h : At K C W s σ H) (l : W.Le W') (ok : Okk K W' st' H') (g : Grow W W' H H') : At K C W' { s with sto := st' } σ H' := by
  have tr : ∀ {a : Addr}, C.G a ≠ none → H a ≠ none := fun {a} ha => by
    cases e : C.G a with
    | none => exact absurd e ha
    | some o =>
      by_cases hm : a ∈ C.hs0
      · obtain ⟨i, hi⟩ := List.getElem?_of_mem hm
        exact h.ok.some (h.pre i a hi)
      · exact (h.keep a o e hm).ne
  refine ⟨ok, fun a o e ha => ?_, fun i a e => l.pre i a (h.pre i a e), fun a ha => ?_, h.len, fun i d e => ?_, fun i xs e => ?_, h.dst⟩
  · refine (h.keep a o e ha).trans fun o' e' => g.keep a o' e' fun hm => ha ?_
    exact (h.gro a (by rw [e]; exact fun z => nomatch z)).2 hm
  · obtain ⟨g1, g2⟩ := g.gro a (tr ha)
    obtain ⟨k1, k2⟩ := h.gro a ha
    exact ⟨g1.trans k1, fun z => k2 (g2 z)⟩
  · obtain ⟨v, e1, r⟩ := h.val i d e
    exact ⟨v, e1, r.mono l⟩
  · obtain ⟨a, vs, e1, ow, e2, r⟩ := h.own i xs e
    obtain ⟨g1, g2⟩ := g.gro a (by rw [e2]; exact fun z => nomatch z)
    exact ⟨a, vs, e1, ⟨g1.trans ow.f, fun z => ow.h (g2 z), ow.g⟩, (g.keep a _ e2 ow.h).eq (fun _ z => nomatch z), r.mono l⟩
theorem den_call (hl : ∀ ds st, m n ds st ≠ .stk → ds.length = np) (h : den K Y (callM m n cs) σ H Q) : tCallS (spM K np m) (WE Y) (denA K Y cs) σ H Q := by
  obtain ⟨C, W, s, at', p⟩ := h
  refine ⟨C, W, s, at', (Pst.bnd p).imp fun ds s1 W1 H1 l1 at1 p1 vs rvs => ?_⟩
  show spM K np m vs H1 Q (WE Y σ)
  have len : ∀ {r : RR}, m n ds s1.sto = r → r ≠ .stk → vs.length = np := fun {r} e z => by rw [rvs.length]; exact hl _ _ (by rw [e]; exact z)
  cases e : m n ds s1.sto with
  | exc x st' =>
    simp only [e] at p1
    refine ⟨len e (fun z => nomatch z), n, W1, s1.sto, ds, at1.ok, rvs, ?_⟩
    rw [e]
    exact fun W' H' cls d l ok g r => p1 W' σ H' cls d l (at1.call l ok g) r
  | stk => simp only [e] at p1; exact p1.elim
  | ok d st' =>
    simp only [e] at p1
    refine ⟨len e (fun z => nomatch z), n, W1, s1.sto, ds, at1.ok, rvs, ?_⟩
    rw [e]
    exact fun v W' H' l ok g r => p1 W' H' l (at1.call l ok g) v r
/-- a def's answer from its body's -/
def fnM (np nn : Nat) (body : Nat → M Fl) : Fn := fun n ds st => if ds.length = np then (match body n ⟨ds.map (fun d => some (SV.val d)) ++ List.replicate (nn - np) none, st⟩ with
  | .ok (.rt d) s' => .ok d s'.sto
  | .ok (.ro xs) s' => .ok (.lst xs) s'.sto
  | .ok .nx s' => .ok .non s'.sto
  | .ok .bk _ => .stk
  | .ok .ct _ => .stk
  | .exc e s' => .exc e s'.sto
  | .stk => .stk) else .stk
theorem fnM_len {nn : Nat} {body : Nat → M Fl} {ds : List PV} {st : List MO} (h : fnM np nn body n ds st ≠ .stk) : ds.length = np := by
  unfold fnM at h
  split at h
  · assumption
  · exact absurd rfl h
end
/-- a def's wish about exceptions, in its body -/
abbrev yE (E : XK) : WX := fun cls d _ H => E cls d H
/-- a body's start -/
theorem start_den {K : PySem.W.Frag} {N ps : List Str} {body : Nat → M Fl} {vs : List V} {H : Hp} {Q : VK} {E : XK} (hN : ps.length ≤ N.length) (hsp : spM K ps.length (fnM ps.length N.length body) vs H Q E) :
    ∃ n, denS K (yE E) (body n) { nx := fun _ H' => Q .non H', rt := Q } (L2.start N vs) H := by
  obtain ⟨hl, n, W, sto, ds, ok, rv, post⟩ := hsp
  have hds : ds.length = ps.length := by rw [← rv.length]; exact hl
  refine ⟨n, ⟨H, W.F, W.hs, yE E⟩, W, ⟨ds.map (fun d => some (SV.val d)) ++ List.replicate (N.length - ps.length) none, sto⟩, ?_, ?_⟩
  · refine ⟨ok, fun a o e _ => .inl e, fun i a e => e, fun a _ => ⟨rfl, fun z => z⟩, ?_, fun i d e => ?_, fun i xs e => ?_, fun i j xs ys a h1 _ _ _ => ?_⟩
    · unfold L2.start
      rw [List.length_append, List.length_append, List.length_map, List.length_map, List.length_replicate, List.length_replicate, hl, hds]
    · have e : (ds.map (fun d => some (SV.val d)) ++ List.replicate (N.length - ps.length) none)[i]? = some (some (.val d)) := e
      by_cases hi : i < ds.length
      · rw [List.getElem?_append_left (by rw [List.length_map]; exact hi), List.getElem?_map] at e
        obtain ⟨d', hd', e2⟩ := Option.map_eq_some_iff.mp e
        cases e2
        obtain ⟨v, hv, r⟩ := rv.get hd'
        refine ⟨v, ?_, r⟩
        unfold L2.start
        rw [List.getElem?_append_left (by rw [List.length_map, hl, ← hds]; exact hi), List.getElem?_map, hv]
        rfl
      · rw [List.getElem?_append_right (by rw [List.length_map]; omega), List.getElem?_replicate] at e
        split at e <;> cases e
    · have e : (ds.map (fun d => some (SV.val d)) ++ List.replicate (N.length - ps.length) none)[i]? = some (some (.own xs)) := e
      by_cases hi : i < ds.length
      · rw [List.getElem?_append_left (by rw [List.length_map]; exact hi), List.getElem?_map] at e
        obtain ⟨d', hd', e2⟩ := Option.map_eq_some_iff.mp e
        cases e2
      · rw [List.getElem?_append_right (by rw [List.length_map]; omega), List.getElem?_replicate] at e
        split at e <;> cases e
    · have e : (ds.map (fun d => some (SV.val d)) ++ List.replicate (N.length - ps.length) none)[i]? = some (some (.own xs)) := h1
      by_cases hi : i < ds.length
      · rw [List.getElem?_append_left (by rw [List.length_map]; exact hi), List.getElem?_map] at e
        obtain ⟨d', hd', e2⟩ := Option.map_eq_some_iff.mp e
        cases e2
      · rw [List.getElem?_append_right (by rw [List.length_map]; omega), List.getElem?_replicate] at e
        split at e <;> cases e
  · unfold fnM at post
    rw [if_pos hds] at post
    cases e : body n ⟨ds.map (fun d => some (SV.val d)) ++ List.replicate (N.length - ps.length) none, sto⟩ with
    | exc x s' =>
      simp only [e] at post
      exact fun W' σ' H' cls d l a r => post W' H' cls d l a.ok ⟨fun b o e hb => a.keep b o e hb, fun b hb => a.gro b hb⟩ r
    | stk => simp only [e] at post; exact post.elim
    | ok fl s' =>
      simp only [e] at post
      have gr : ∀ {W' : Vw} {σ' : L2.St} {H' : Hp} {z : S}, At K ⟨H, W.F, W.hs, yE E⟩ W' z σ' H' → Grow W W' H H' := fun a => ⟨fun b o e hb => a.keep b o e hb, fun b hb => a.gro b hb⟩
      cases fl with
      | nx => exact fun W' σ' H' l a => post .non W' H' l a.ok (gr a) .non
      | rt d => exact fun W' σ' H' l a v rv => post v W' H' l a.ok (gr a) rv
      | ro xs =>
        intro W' σ' H' l a b vs ow e2 r
        obtain ⟨l2, a2⟩ := a.adopt ow e2
        exact post _ _ H' (l.trans l2) a2.ok (gr a2) (.lst upd_same (r.mono l2))
      | bk => exact post.elim
      | ct => exact post.elim
/-- a def of the text behind the top, whatever its defaults -/
structure Fun (K : PySem.W.Frag) (x qual : Str) (st : Stmt) (f : Addr) (fd : FuncData) : Prop where
  ex : ∃ (oc : Value) (od : Option Addr) (dV kV doc pm : Value) (an : Option Addr) (cdv ct : Value) (osl : Array (Option Value)),
    fd = PySem.W.fnOf x qual (defArgs st) (defBody st) (defScope st) dV kV doc pm an cdv ct ∧ K.lookup f = some ⟨oc, od, .func fd, osl⟩ ∧ PySem.W.codeIn K cdv qual = true
  kp : PySem.W.keepIn K (.ref f) = true
theorem funMk {K : PySem.W.Frag} {x qual : Str} {st : Stmt} {f : Addr} {oc : Value} {od an : Option Addr} {osl : Array (Option Value)} {dV kV doc pm cdv ct : Value} (l : K.lookup f = some ⟨oc, od, .func (PySem.W.fnOf x qual (defArgs st) (defBody st) (defScope st) dV kV doc pm an cdv ct), osl⟩)
    (c : PySem.W.codeIn K cdv qual = true) (k : PySem.W.keepIn K (.ref f) = true) : Fun K x qual st f (PySem.W.fnOf x qual (defArgs st) (defBody st) (defScope st) dV kV doc pm an cdv ct) := ⟨⟨oc, od, dV, kV, doc, pm, an, cdv, ct, osl, rfl, l, c⟩, k⟩
/-- THE RULE: a def keeps the promise of its computation -/
theorem fn_den {P : Program} {w : World} {K : PySem.W.Frag} {mg : Str → Option Value} {base : Heap} {k : Nat} {f : Addr} {fd : FuncData} {x qual : Str} {st : Stmt} {N ps : List Str} {body : Nat → M Fl}
    (F : Fun K x qual st f fd) (S : FnScope N ps (defScope st)) (hN : ps.length ≤ N.length)
    (hbody : ∀ (cdv : Value) (A : Around) (outer : List PySem.Env) (s : Shared) (H : Hp) (E : XK) (n : Nat), (A.deeper (envOfC qual (defScope st) s.heap.objs.size f cdv)).guards = some [] → Room k (A.deeper (envOfC qual (defScope st) s.heap.objs.size f cdv)) →
      Takes (cxOf (L2.CX P w) P w K mg base N qual (defScope st) f cdv A outer s H E) (yE E) →
      PSs (cxOf (L2.CX P w) P w K mg base N qual (defScope st) f cdv A outer s H E) (defBody st) (denS K (yE E) (body n))) :
    FnG P w K mg base (L2.CX P w) (k + 1) f fd ps (spM K ps.length (fnM ps.length N.length body)) := by
  obtain ⟨oc, od, dV, kV, doc, pm, an, cdv, ct, osl, rfl, lk, hcd⟩ := F.ex
  refine fn_ofG lk hcd S (fun vs H Q E h => h.1) fun A outer s H vs Q E hgd hr hsp => ?_
  obtain ⟨n, h⟩ := start_den hN hsp
  exact ⟨_, hbody cdv A outer s H E n hgd hr (takes_of rfl rfl rfl rfl), h⟩
/-! ### repr -/
def encK : Key → PyData
  | .inl i => .int i
  | .inr x => .str x
def dicD (kvs : List (Str × Int)) : PyData := .dict (kvs.map fun p => (.str p.1, .int p.2))
theorem pairsRead_ints {h : Heap} : ∀ (kvs : List (Str × Int)) {vs : List (Key × Value)}, KV (kvs.map fun p => ((Sum.inr p.1 : Key), V.int p.2)) vs → PyProof.V.PairsRead h encK vs (kvs.map fun p => (.str p.1, .int p.2)) []
  | [], _, .nil => .nil
  | (x, i) :: r, _, .cons (b := (k, v)) ⟨h1, h2⟩ t => by
    obtain ⟨tk, e⟩ := (show ∃ tk, v = Value.int i tk from h2)
    have h1 : (Sum.inr x : Key) = k := h1
    subst e
    subst h1
    exact PyProof.V.PairsRead.cons (enc := encK) (k := (Sum.inr x : Key)) (as := []) (.int i tk) (pairsRead_ints r t)
def rRepr (K : PySem.W.Frag) : List V → Hp → VK → Prop := fun vs H Q => (∃ x d, vs = [x] ∧ Dp K H x d ∧ d.showable = true ∧ d.hasDict = false ∧ d.depth ≤ 64 ∧ d.shown.length ≤ sizeLine ∧ Q (.str d.shown) H) ∨
  ∃ a kvs, vs = [.ref a] ∧ H a = some (.dK (kvs.map fun p => (Sum.inr p.1, V.int p.2))) ∧ (dicD kvs).showable = true ∧ (dicD kvs).depth ≤ 64 ∧ (dicD kvs).shown.length ≤ sizeLine ∧ Q (.str (dicD kvs).shown) H
theorem call_repr {X : Cx} (hgd : X.A.guards = some []) (hu : X.A.units + 128 < cLine) : CallR X (.builtin "repr") (rRepr X.K) := by
  intro pins s σ H vs us Q I r h
  rcases h with ⟨x, d, rfl, dp, hs, hd, h64, hz, q⟩ | ⟨a, kvs, rfl, hH, hs, h64, hz, q⟩
  rotate_left
  · cases r with
    | cons rx rt =>
      cases rt
      cases rx
      obtain ⟨_, hsm, vs, hkv, hdo⟩ := dk_of I.hok hH
      have rd : Reads s.heap (.ref a) (dicD kvs) [a] := PyProof.V.reads_dictOf (enc := encK) (fun k key hk => by
        rcases keyIs_shape (show keyIs k key = true from hk) with ⟨i, t, rfl, rfl⟩ | ⟨x, t, rfl, rfl⟩
        · exact .int i t
        · exact .str x t) hdo (pairsRead_ints kvs hkv)
      exact repr_of_reads' rd hs (fun _ hm => by
        rw [List.mem_singleton] at hm
        rw [hm] at hsm
        simp at hsm) hgd (by omega) (fun _ _ e => e) (fun h' u tk hk => ⟨.str _, H, I.kept hk, ⟨_, rfl⟩, q⟩) hz
  cases r with
  | cons rx rt =>
    cases rt
    rename_i u
    cases dp with
    | non =>
      cases rx
      exact P.repr_of_none ⟨.str _, H, I.tok _, ⟨_, rfl⟩, by simpa only [PyData.shown] using q⟩
    | bl b =>
      cases rx
      exact P.repr_of_bool ⟨.str _, H, I.tok _, ⟨_, rfl⟩, by simpa only [PyData.shown] using q⟩
    | int i =>
      obtain ⟨t, rfl⟩ := rx
      exact P.repr_of_int (by simpa [PyData.showable] using hs) ⟨.str _, H, I.tok _, ⟨_, rfl⟩, by simpa only [PyData.shown] using q⟩
    | str y =>
      obtain ⟨t, rfl⟩ := rx
      simp only [PyData.shown] at q hz
      exact P.repr_of_str ⟨.str _, H, I.tok _, ⟨_, rfl⟩, q⟩ hz
    | lst hq ha =>
      cases rx
      obtain ⟨as, rd⟩ := Dp.reads I _ _ _ (.lst hq ha) rfl
      exact repr_of_reads' rd hs (PyData.noDict_hsm hd) hgd (by omega) (fun _ _ e => e) (fun h' u tk hk => ⟨.str _, H, I.kept hk, ⟨_, rfl⟩, q⟩) hz
    | tup hq ha =>
      cases rx
      obtain ⟨as, rd⟩ := Dp.reads I _ _ _ (.tup hq ha) rfl
      exact repr_of_reads' rd hs (PyData.noDict_hsm hd) hgd (by omega) (fun _ _ e => e) (fun h' u tk hk => ⟨.str _, H, I.kept hk, ⟨_, rfl⟩, q⟩) hz
def reprP (a : PV) : Option PV := match a with
  | .dic kvs => if ((dicD kvs).showable = true ∧ (dicD kvs).depth ≤ 64) ∧ (dicD kvs).shown.length ≤ sizeLine then some (.str (dicD kvs).shown) else none
  | a => match a.toD with
  | some d => if (d.showable = true ∧ d.hasDict = false) ∧ d.depth ≤ 64 ∧ d.shown.length ≤ sizeLine then some (.str d.shown) else none
  | none => none
theorem fn_repr {K : PySem.W.Frag} : Fn1 (rRepr K) K (fun a => lft (reprP a)) := by
  intro C W s σ H v a Q at' ra p
  obtain ⟨d, e, q⟩ := p.lft'
  have q0 := q W H (Vw.Le.refl W) at'
  unfold reprP at e
  split at e
  · rename_i kvs
    split at e
    · rename_i hc
      cases e
      cases ra with
      | rep h => cases h with
        | dic hH => exact .inr ⟨_, kvs, rfl, at'.ok.sub _ _ hH, hc.1.1, hc.1.2, hc.2, q0 _ (.str _)⟩
    · cases e
  · split at e
    · rename_i x hx
      split at e
      · rename_i hc
        cases e
        exact .inl ⟨v, x, rfl, ra.dp at'.ok.sub hx, hc.1.1, hc.1.2, hc.2.1, hc.2.2, q0 _ (.str _)⟩
      · cases e
    · cases e
end Dn
/-! Den6: sorted. -/
namespace Dn
open PySem L2 PySem.Spec PyProof.Rows
/-! ### texts in order -/
/-! ### a tuple collected -/
/-! ### by a key: stable -/
/-! ### sorted(xs, key=len), the items tuples -/
end Dn
/-! Den7: the rules in short, one for each form of Python. -/
namespace Dn
open PySem L2 PySem.Spec PyProof.Rows
theorem bo_len : bootBuiltins "len" = some (.builtin "len") := by decide +kernel
theorem bo_abs : bootBuiltins "abs" = some (.builtin "abs") := by decide +kernel
theorem bo_all : bootBuiltins "all" = some (.builtin "all") := by decide +kernel
theorem bo_repr : bootBuiltins "repr" = some (.builtin "repr") := by decide +kernel
theorem bo_int : bootBuiltins "int" = some (.type "int") := by decide +kernel
theorem bo_list : bootBuiltins "list" = some (.type "list") := by decide +kernel
section
variable {Y : WX} {X : Cx} {a b c e o : Expr} {es : List Expr} {ca cb cd ce : M PV} {ta tb tc : M Bool} {pos p px : Pos} {i j k : Nat}
/-! ### names, constants -/
theorem xv (i : Nat) {x : Str} {pos : Pos} (hN : X.N[i]? = some x := by rfl) (hv : Vis X.env.scope x := by first | exact Or.inl rfl | exact Or.inr (Or.inl rfl) | exact Or.inr (Or.inr rfl)) (hd : (x == ("__debug__" : Str)) = false := by decide)
    (hcd : (x == ("__classdict__" : Str)) = false := by decide) : PE X (.Name x pos) (den X.K Y (var i)) := pe_imp (pe_var hN hv hd hcd) fun _ _ _ => den_var
theorem xint {n : Int} {j pos} : PE X (.Constant (.int n) j pos) (den X.K Y (ret (.int n))) := pe_imp pe_int fun _ _ _ h => den_ret h fun _ => .int n
theorem xstr {x : Str} {j pos} : PE X (.Constant (.str x) j pos) (den X.K Y (ret (.str x))) := pe_imp pe_str fun _ _ _ h => den_ret h fun _ => .str x
theorem xbl {b : Bool} {j pos} : PE X (.Constant (.bool b) j pos) (den X.K Y (ret (.bl b))) := pe_imp pe_bl fun _ _ _ h => den_ret h fun _ => .bl b
theorem xnon {j pos} : PE X (.Constant .none j pos) (den X.K Y (ret .non)) := pe_imp pe_non fun _ _ _ h => den_ret h fun _ => .non
/-! ### operators -/
abbrev opAdd (a b : PV) : M PV := lft (addP a b)
abbrev opSub (a b : PV) : M PV := lft (subP a b)
abbrev opMul (a b : PV) : M PV := lft (mulP a b)
abbrev opDiv (a b : PV) : M PV := lft (fdivP a b)
abbrev opMod (a b : PV) : M PV := lft (modP a b)
abbrev opPow (a b : PV) : M PV := lft (powP a b)
theorem xadd (ha : PE X a (den X.K Y ca)) (hb : PE X b (den X.K Y cb)) : PE X (.BinOp a .Add b pos) (den X.K Y (bin ca cb opAdd)) := pe_imp (pe_op op_addU ha hb) fun _ _ _ => den_bin bin_add
theorem xsub (ha : PE X a (den X.K Y ca)) (hb : PE X b (den X.K Y cb)) : PE X (.BinOp a .Sub b pos) (den X.K Y (bin ca cb opSub)) := pe_imp (pe_op op_sub ha hb) fun _ _ _ => den_bin bin_sub
theorem xmul (ha : PE X a (den X.K Y ca)) (hb : PE X b (den X.K Y cb)) : PE X (.BinOp a .Mult b pos) (den X.K Y (bin ca cb opMul)) := pe_imp (pe_op (op_or2 op_mulW op_rep) ha hb) fun _ _ _ => den_bin bin_mul
theorem xfdiv (ha : PE X a (den X.K Y ca)) (hb : PE X b (den X.K Y cb)) : PE X (.BinOp a .FloorDiv b pos) (den X.K Y (bin ca cb opDiv)) := pe_imp (pe_op op_fdivW ha hb) fun _ _ _ => den_bin bin_fdiv
theorem xmod (ha : PE X a (den X.K Y ca)) (hb : PE X b (den X.K Y cb)) : PE X (.BinOp a .Mod b pos) (den X.K Y (bin ca cb opMod)) := pe_imp (pe_op op_mod ha hb) fun _ _ _ => den_bin bin_mod
theorem xpow (ha : PE X a (den X.K Y ca)) (hb : PE X b (den X.K Y cb)) : PE X (.BinOp a .Pow b pos) (den X.K Y (bin ca cb opPow)) := pe_imp (pe_op op_pow ha hb) fun _ _ _ => den_bin bin_pow
/-! ### comparisons: by the rule of the operator -/
structure CmpOk (X : Cx) (op : CmpOp) (f : PV → PV → M PV) : Prop where
  ok : ∃ r, OpR X (compareOp op) r ∧ Bin r X.K f
abbrev opLt (a b : PV) : M PV := lft (ordP (fun i j => decide (i < j)) a b)
abbrev opLe (a b : PV) : M PV := lft (ordP (fun i j => decide (i ≤ j)) a b)
abbrev opGt (a b : PV) : M PV := lft (ordP (fun i j => decide (j < i)) a b)
abbrev opGe (a b : PV) : M PV := lft (ordP (fun i j => decide (j ≤ i)) a b)
abbrev opEq (a b : PV) : M PV := lft (eqP false a b)
abbrev opNe (a b : PV) : M PV := lft (eqP true a b)
abbrev opIn (a b : PV) : M PV := lft (inP false a b)
theorem k_lt : CmpOk X .Lt opLt := ⟨_, op_lt, bin_ord⟩
theorem k_le : CmpOk X .LtE opLe := ⟨_, op_le, bin_ord⟩
theorem k_gt : CmpOk X .Gt opGt := ⟨_, op_gt, bin_ord⟩
theorem k_ge : CmpOk X .GtE opGe := ⟨_, op_ge, bin_ord⟩
theorem k_eq (hu : X.A.units + 128 < cLine) : CmpOk X .Eq opEq := ⟨_, op_or2 op_eq (op_eqD (by omega)), bin_eq⟩
theorem k_ne (hu : X.A.units + 128 < cLine) : CmpOk X .NotEq opNe := ⟨_, op_or2 op_ne (op_neD (by omega)), bin_ne⟩
theorem k_in (hu : X.A.units + 128 < cLine) : CmpOk X .In opIn := ⟨_, op_or2 (op_or2 op_in_seq (op_inD (by omega))) op_in_sign, bin_in⟩
theorem xcmp {op : CmpOp} {f : PV → PV → M PV} (h : CmpOk X op f) (ha : PE X a (den X.K Y ca)) (hb : PE X b (den X.K Y cb)) (hm : behindInMarks op b = false := by first | exact nomark _ | rfl) : PE X (.Compare a [op] [b] pos) (den X.K Y (bin ca cb f)) := by
  obtain ⟨r, h1, h2⟩ := h.ok
  exact pe_imp (pe_cmpR h1 ha hb hm) fun _ _ _ => den_bin h2
theorem xnotN (ha : PE X a (den X.K Y ca)) {j p2} : PE X (.Compare a [.IsNot] [.Constant .none j p2] pos) (den X.K Y (isN true ca)) := pe_imp (pe_cmp (pc_notN ha) rfl) fun _ _ _ => den_notN
/-! ### tests -/
theorem tcmp {op : CmpOp} {f : PV → PV → M PV} (h : CmpOk X op f) (ha : PE X a (den X.K Y ca)) (hb : PE X b (den X.K Y cb)) (hm : behindInMarks op b = false := by first | exact nomark _ | rfl) : PT X (.Compare a [op] [b] pos) (denT X.K Y (asB (bin ca cb f))) := by
  obtain ⟨r, h1, h2⟩ := h.ok
  exact pt_imp (pt_cmpR h1 ha hb hm) fun _ _ _ q => den_bin h2 (den_asB q)
theorem tisN (ha : PE X a (den X.K Y ca)) {j p2} : PT X (.Compare a [.Is] [.Constant .none j p2] pos) (denT X.K Y (asB (isN false ca))) := pt_imp (pt_cmp (pc_isN ha) rfl) fun _ _ _ q => den_isN (den_asB q)
theorem tval (ha : PE X a (den X.K Y ca)) (he : ∀ whole, isTrue a X.env whole = (do let v ← whole; standAt a.pos; holding [v] (truthy v)) := by intro _; rfl) : PT X a (denT X.K Y (asB ca)) := pt_imp (pt_val ha he) fun _ _ _ q => den_asB q
theorem wand (ha : PT X a (denT X.K Y ta)) (hb : PW X (.BoolOp .And (b :: es) pos) (denT X.K Y tb)) : PW X (.BoolOp .And (a :: b :: es) pos) (denT X.K Y (andT ta tb)) := pw_imp (pw_and ha hb) fun _ _ _ => den_and
theorem wor (ha : PT X a (denT X.K Y ta)) (hb : PW X (.BoolOp .Or (b :: es) pos) (denT X.K Y tb)) : PW X (.BoolOp .Or (a :: b :: es) pos) (denT X.K Y (orT ta tb)) := pw_imp (pw_or ha hb) fun _ _ _ => den_or
theorem tnot (ha : PT X a (denT X.K Y ta)) : PT X (.UnaryOp .Not a pos) (denT X.K Y (notT ta)) := pt_imp (pt_not ha) fun _ _ _ => den_not
theorem xand (ha : PE X a (den X.K Y ca)) (hb : PE X (.BoolOp .And (b :: es) pos) (den X.K Y cb)) : PE X (.BoolOp .And (a :: b :: es) pos) (den X.K Y (andV ca cb)) := pe_imp (pe_and ha hb) fun _ _ _ => den_andV
theorem xnot (ha : PE X a (den X.K Y ca)) : PE X (.UnaryOp .Not a pos) (den X.K Y (notV ca)) := pe_imp (pe_not ha) fun _ _ _ => den_notV
theorem xif (hc : PT X c (denT X.K Y tc)) (ha : PE X a (den X.K Y ca)) (hb : PE X b (den X.K Y cb)) : PE X (.IfExp c a b pos) (den X.K Y (iteT tc ca cb)) := pe_imp (pe_ifExp hc ha hb) fun _ _ _ => den_ite
/-! ### arguments, displays -/
theorem anil : PA X [] (denA X.K Y argN) := pa_imp pa_nil fun _ _ _ => den_argN
theorem acons {r : M (List PV)} (ha : PE X e (den X.K Y ce)) (hr : PA X es (denA X.K Y r)) (hs : starEach (e :: es) X.env = (false, eval e X.env) :: starEach es X.env := by rfl) : PA X (e :: es) (denA X.K Y (argC ce r)) := pa_imp (pa_cons ha hr hs) fun _ _ _ => den_argC
theorem xtup {cs : M (List PV)} {n} (h : PA X es (denA X.K Y cs)) : PE X (.Tuple es n pos) (den X.K Y (tupM cs)) := pe_imp (pe_tup h) fun _ _ _ => den_tup
theorem olst {cs : M (List PV)} (h : PA X es (denA X.K Y cs)) : PE X (.List es pos) (denO X.K Y (fits cs)) := pe_imp (pe_lst h) fun _ _ _ => denO_lst
/-- a new list, frozen at once -/
theorem xo {cs : M (List PV)} (h : PE X e (denO X.K Y cs)) : PE X e (den X.K Y (lstM cs)) := pe_imp h fun _ _ _ => denO_den
/-! ### subscripts, slices -/
abbrev opIx (a b : PV) : M PV := lft (ixP a b)
theorem xix (ha : PE X a (den X.K Y ca)) (hb : PE X b (den X.K Y cb)) (hs : PlainIx b := by intro _ _; rfl) : PE X (.Subscript a b pos) (den X.K Y (bin ca cb opIx)) := pe_imp (pe_ix ix_seq ha hb hs) fun _ _ _ => den_bin bin_ix
theorem qN : PO X none (denP X.K Y parN) := ⟨fun pins s σ H Q I h => po_none.run pins s σ H Q I (den_parN h)⟩
theorem qS (h : PE X e (den X.K Y ce)) : PO X (some e) (denP X.K Y (parS ce)) := ⟨fun pins s σ H Q I q => (po_some h).run pins s σ H Q I (den_parS q)⟩
theorem xsl {lo hi : Option Expr} {cl ch : M (Option Int)} {p2} (h : PE X e (den X.K Y ce)) (hl : PO X lo (denP X.K Y cl)) (hh : PO X hi (denP X.K Y ch)) : PE X (.Subscript e (.Slice lo hi none p2) pos) (den X.K Y (slM ce cl ch)) := pe_imp (pe_slice sl_u h hl hh) fun _ _ _ => den_sl
theorem xhget (hu : X.A.units + 128 < cLine) (ha : PE X a (den X.K Y ca)) (hb : PE X b (den X.K Y cb)) (hs : NoSl b := by intro _ _; rfl) : PE X (.Subscript a b pos) (den X.K Y (bin ca cb hgetP)) := pe_imp (pe_dget (by omega) ha hb hs) fun _ _ _ => den_hget
/-! ### built-ins -/
theorem xb {id : String} {x : Str} {r : List V → Hp → VK → Prop} {f : PV → M PV} (hc : CallR X (.builtin id) r) (hf : Fn1 r X.K f) (hv : bootBuiltins x = some (.builtin id)) (hm : X.mg x = none) (ha : PE X e (den X.K Y ce)) (hg : Gl X x := by rfl) (hn : x ≠ "__name__" := by decide) (hdb : (x == ("__debug__" : Str)) = false := by decide)
    (he : starEach [e] X.env = (false, eval e X.env) :: starEach [] X.env := by rfl) (hpl : (backTo pos (starEach [] X.env)).any (·.1) = false := by rfl) : PE X (.Call (.Name x p) [e] [] pos) (den X.K Y (bnd ce f)) :=
  pe_imp (pe_callB hc hg hm hv (pa_cons ha pa_nil he) hn hdb he hpl) fun _ _ _ => den_fn1 hf
theorem xt {T : String} {x : Str} {r : List V → Hp → VK → Prop} {f : PV → M PV} (hc : CallR X (.type T) r) (hf : Fn1 r X.K f) (hv : bootBuiltins x = some (.type T)) (hm : X.mg x = none) (ha : PE X e (den X.K Y ce)) (hg : Gl X x := by rfl) (hn : x ≠ "__name__" := by decide) (hdb : (x == ("__debug__" : Str)) = false := by decide)
    (he : starEach [e] X.env = (false, eval e X.env) :: starEach [] X.env := by rfl) (hpl : (backTo pos (starEach [] X.env)).any (·.1) = false := by rfl) : PE X (.Call (.Name x p) [e] [] pos) (den X.K Y (bnd ce f)) :=
  pe_imp (pe_callTy hc hg hm hv (pa_cons ha pa_nil he) hn hdb he hpl) fun _ _ _ => den_fn1 hf
theorem ob {id : String} {x : Str} {r : List V → Hp → VK → Prop} {f : PV → M (List PV)} (hc : CallR X (.builtin id) r) (hf : Fn1O r X.K f) (hv : bootBuiltins x = some (.builtin id)) (hm : X.mg x = none) (ha : PE X e (den X.K Y ce)) (hg : Gl X x := by rfl) (hn : x ≠ "__name__" := by decide) (hdb : (x == ("__debug__" : Str)) = false := by decide)
    (he : starEach [e] X.env = (false, eval e X.env) :: starEach [] X.env := by rfl) (hpl : (backTo pos (starEach [] X.env)).any (·.1) = false := by rfl) : PE X (.Call (.Name x p) [e] [] pos) (denO X.K Y (bnd ce f)) :=
  pe_imp (pe_callB hc hg hm hv (pa_cons ha pa_nil he) hn hdb he hpl) fun _ _ _ => denO_fn1 hf
theorem ot {T : String} {x : Str} {r : List V → Hp → VK → Prop} {f : PV → M (List PV)} (hc : CallR X (.type T) r) (hf : Fn1O r X.K f) (hv : bootBuiltins x = some (.type T)) (hm : X.mg x = none) (ha : PE X e (den X.K Y ce)) (hg : Gl X x := by rfl) (hn : x ≠ "__name__" := by decide) (hdb : (x == ("__debug__" : Str)) = false := by decide)
    (he : starEach [e] X.env = (false, eval e X.env) :: starEach [] X.env := by rfl) (hpl : (backTo pos (starEach [] X.env)).any (·.1) = false := by rfl) : PE X (.Call (.Name x p) [e] [] pos) (denO X.K Y (bnd ce f)) :=
  pe_imp (pe_callTy hc hg hm hv (pa_cons ha pa_nil he) hn hdb he hpl) fun _ _ _ => denO_fn1 hf
abbrev fLen (a : PV) : M PV := lft (lenP a)
abbrev fAbs (a : PV) : M PV := lft (absP a)
abbrev fInt (a : PV) : M PV := lft (intP a)
abbrev fAll (a : PV) : M PV := lft (allP a)
abbrev fRepr (a : PV) : M PV := lft (reprP a)
abbrev fTuple (a : PV) : M PV := lft (tupleP a)
abbrev fList (a : PV) : M (List PV) := lft (listP a)
theorem xlen (hm : X.mg "len" = none) (ha : PE X e (den X.K Y ce)) (hg : Gl X "len" := by rfl) (he : starEach [e] X.env = (false, eval e X.env) :: starEach [] X.env := by rfl) : PE X (.Call (.Name "len" p) [e] [] pos) (den X.K Y (bnd ce fLen)) := xb call_len fn_len bo_len hm ha hg (he := he)
theorem xabs (hm : X.mg "abs" = none) (ha : PE X e (den X.K Y ce)) (hg : Gl X "abs" := by rfl) (he : starEach [e] X.env = (false, eval e X.env) :: starEach [] X.env := by rfl) : PE X (.Call (.Name "abs" p) [e] [] pos) (den X.K Y (bnd ce fAbs)) := xb call_abs fn_abs bo_abs hm ha hg (he := he)
theorem xall (hc : X.calm = true) (hm : X.mg "all" = none) (ha : PE X e (den X.K Y ce)) (hg : Gl X "all" := by rfl) (he : starEach [e] X.env = (false, eval e X.env) :: starEach [] X.env := by rfl) : PE X (.Call (.Name "all" p) [e] [] pos) (den X.K Y (bnd ce fAll)) := xb (cr_all hc) fn_all bo_all hm ha hg (he := he)
theorem xrepr (hgd : X.A.guards = some []) (hu : X.A.units + 128 < cLine) (hm : X.mg "repr" = none) (ha : PE X e (den X.K Y ce)) (hg : Gl X "repr" := by rfl) (he : starEach [e] X.env = (false, eval e X.env) :: starEach [] X.env := by rfl) : PE X (.Call (.Name "repr" p) [e] [] pos) (den X.K Y (bnd ce fRepr)) := xb (call_repr hgd hu) fn_repr bo_repr hm ha hg (he := he)
theorem xtoint (hm : X.mg "int" = none) (ha : PE X e (den X.K Y ce)) (hg : Gl X "int" := by rfl) (he : starEach [e] X.env = (false, eval e X.env) :: starEach [] X.env := by rfl) : PE X (.Call (.Name "int" p) [e] [] pos) (den X.K Y (bnd ce fInt)) := xt call_int1 fn_int bo_int hm ha hg (he := he)
theorem olist (hm : X.mg "list" = none) (ha : PE X e (den X.K Y ce)) (hg : Gl X "list" := by rfl) (he : starEach [e] X.env = (false, eval e X.env) :: starEach [] X.env := by rfl) : PE X (.Call (.Name "list" p) [e] [] pos) (denO X.K Y (bnd ce fList)) := ot call_list_of fn_list bo_list hm ha hg (he := he)
/-! ### methods -/
theorem xjoin {apos : Pos} (ha : PE X o (den X.K Y ca)) (hb : PE X e (den X.K Y cb)) (hbase : attributeBase o "join" X.env (eval o X.env) = eval o X.env := by rfl) (hline : (apos.endLine == pos.line) = true := by rfl)
    (hs : starEach [e] X.env = [(false, eval e X.env)] := by rfl) :
    PE X (.Call (.Attribute o "join" apos) [e] [] pos) (den X.K Y (joinM ca cb)) := pe_imp (pe_join ha hb hs hbase hline) fun _ _ _ => den_join
end
end Dn
/-! Den8: statements, comprehensions, calls, in short. -/
namespace Dn
open PySem L2 PySem.Spec PyProof.Rows
/-- no exception is wanted -/
abbrev yF : WX := fun _ _ _ _ => False
section
variable {Y : WX} {X : Cx} {a b c e o : Expr} {es : List Expr} {ca cb cd ce : M PV} {ta tb tc : M Bool} {fa fb fc : M Fl} {pos p px : Pos} {i j k : Nat} {st : Stmt} {rest sa sb : List Stmt}
/-! ### blocks -/
theorem bnil : PSs X [] (denS X.K Y skipM) := pss_imp pss_nil fun _ _ _ => den_skip
theorem bone (h : PS X st (denS X.K Y fa)) : PSs X [st] (denS X.K Y fa) := pss_one h
theorem bcons (h : PS X st (denS X.K Y fa)) (r : PSs X rest (denS X.K Y fb)) : PSs X (st :: rest) (denS X.K Y (seqM fa fb)) := pss_imp (pss_cons h r) fun _ _ _ => den_seq
theorem sret (h : PE X e (den X.K Y ce)) : PS X (.Return (some e) pos) (denS X.K Y (retM ce)) := ps_imp (ps_ret h) fun _ _ _ => den_return
theorem sexpr (h : PE X e (den X.K Y ce)) (hs : swapsWith e none pos.line X.env = pure false := by rfl) : PS X (.Expr e pos) (denS X.K Y (dropM ce)) := ps_imp (ps_expr h hs) fun _ _ _ => den_drop
theorem sif (hc : PT X c (denT X.K Y tc)) (ha : PSs X sa (denS X.K Y fa)) (hb : PSs X sb (denS X.K Y fb)) : PS X (.If c sa sb pos) (denS X.K Y (ifM tc fa fb)) := ps_imp (ps_if hc ha hb) fun _ _ _ => den_if
/-! ### stores -/
theorem sset (i : Nat) {x : Str} (nd : X.N.Nodup) (he : PE X e (den X.K Y ce)) (hi : X.N[i]? = some x := by rfl) (hx : Loc X.env.scope x := by first | exact Or.inl rfl | exact Or.inr rfl) (hs : swapsWith e (some (.Name x px)) pos.line X.env = pure false := by rfl)
    (hf : X.fn x = true ∨ X.env.scope.names.lookup x = some .local := by first | exact .inl rfl | exact .inr rfl | assumption) : PS X (.Assign [.Name x px] e pos) (denS X.K Y (asgM i ce)) := ps_imp (ps_set nd hi hx he hs hf) fun _ _ _ => den_asg
theorem shput {cd ck cv : M PV} {d key v : Expr} {p2 : Pos} (hu : X.A.units + 128 < cLine) (hd : PE X d (den X.K Y cd)) (hk : PE X key (den X.K Y ck)) (hv : PE X v (den X.K Y cv)) (hs : swapsWith v (some (.Subscript d key p2)) pos.line X.env = pure false := by rfl) :
    PS X (.Assign [.Subscript d key p2] v pos) (denS X.K Y (hputM cd ck cv)) := ps_imp (ps_dput (by omega) hd hk hv hs) fun _ _ _ => den_hput
theorem spar2VO (i j : Nat) {x y : Str} {kt k2 : Nat} {py pt pt2 : Pos} {cb : M (List PV)} (hc : X.calm = true) (nd : X.N.Nodup) (ha : PE X a (den X.K Y ca)) (hb : PE X b (denO X.K Y cb)) (hi : X.N[i]? = some x := by rfl) (hj : X.N[j]? = some y := by rfl) (hij : i ≠ j := by decide)
    (hx : X.env.scope.names.lookup x = some .local := by rfl) (hy : X.env.scope.names.lookup y = some .local := by rfl) (hw : swappedStores [.Tuple [.Name x px, .Name y py] kt pt] (.Tuple [a, b] k2 pt2) X.env = pure (some [x, y]) := by rfl)
    (hs : swapsWithSole [.Tuple [.Name x px, .Name y py] kt pt] (.Tuple [a, b] k2 pt2) pos.line X.env = pure false := by rfl) (h1 : starEach [a, b] X.env = (false, eval a X.env) :: starEach [b] X.env := by rfl) (h2 : starEach [b] X.env = (false, eval b X.env) :: starEach [] X.env := by rfl) :
    PS X (.Assign [.Tuple [.Name x px, .Name y py] kt pt] (.Tuple [a, b] k2 pt2) pos) (denS X.K Y (par2VO i j ca cb)) := ps_imp (ps_par hc nd hi hj hij hx hy (pa_cons ha (pa_cons hb pa_nil h2) h1) hw hs) fun _ _ _ => den_par2VO
theorem spar3 (i j l : Nat) {x y z : Str} {kt k2 : Nat} {py pz pt pt2 : Pos} (hc : X.calm = true) (nd : X.N.Nodup) (ha : PE X a (den X.K Y ca)) (hb : PE X b (den X.K Y cb)) (hcc : PE X c (den X.K Y cd)) (hi : X.N[i]? = some x := by rfl) (hj : X.N[j]? = some y := by rfl) (hl : X.N[l]? = some z := by rfl)
    (hij : i ≠ j := by decide) (hil : i ≠ l := by decide) (hjl : j ≠ l := by decide) (hx : X.env.scope.names.lookup x = some .local := by rfl) (hy : X.env.scope.names.lookup y = some .local := by rfl) (hz : X.env.scope.names.lookup z = some .local := by rfl)
    (hw : swappedStores [.Tuple [.Name x px, .Name y py, .Name z pz] kt pt] (.Tuple [a, b, c] k2 pt2) X.env = pure (some [x, y, z]) := by rfl) (hs : swapsWithSole [.Tuple [.Name x px, .Name y py, .Name z pz] kt pt] (.Tuple [a, b, c] k2 pt2) pos.line X.env = pure false := by rfl)
    (h1 : starEach [a, b, c] X.env = (false, eval a X.env) :: starEach [b, c] X.env := by rfl) (h2 : starEach [b, c] X.env = (false, eval b X.env) :: starEach [c] X.env := by rfl) (h3 : starEach [c] X.env = (false, eval c X.env) :: starEach [] X.env := by rfl) :
    PS X (.Assign [.Tuple [.Name x px, .Name y py, .Name z pz] kt pt] (.Tuple [a, b, c] k2 pt2) pos) (denS X.K Y (par3 i j l ca cb cd)) := ps_imp (ps_par3 hc nd hi hj hl hij hil hjl hx hy hz (pa_cons ha (pa_cons hb (pa_cons hcc pa_nil h3) h2) h1) hw hs) fun _ _ _ => den_par3
/-! ### what is walked -/
theorem iu {tg : Expr} (h : PE X e (den X.K Y ce)) : PI X tg e (iU X.K (den X.K Y ce)) := pi_u h
theorem irng {tg : Expr} (hm : X.mg "range" = none) (h : PE X e (den X.K Y ce)) (hg : Gl X "range" := by rfl) (hs : starEach [e] X.env = [(false, eval e X.env)] := by rfl) : PI X tg (.Call (.Name "range" p) [e] [] pos) (iRng1 (tCons (den X.K Y ce) tNil)) := pi_range1 hg hm (pa_cons h pa_nil hs) hs
theorem sfor (i : Nat) {x : Str} {wi : TI} {cs : M (List PV)} {iter : Expr} (hc : X.calm = true) (nd : X.N.Nodup) (hp : PassesOwn (model X.prog X.w) X.A X.env X.xe) (hi : PI X (.Name x px) iter wi) (hw : SrcOk Y wi X.K cs) (hb : PSs X sa (denS X.K Y fa)) (hN : X.N[i]? = some x := by rfl)
    (hx : Loc X.env.scope x := by first | exact Or.inl rfl | exact Or.inr rfl) (hf : X.fn x = true ∨ X.env.scope.names.lookup x = some .local := by first | exact .inl rfl | exact .inr rfl | assumption) (hs : ∀ x, foldedSetIterable iter X.env x = pure x := by intro _; rfl) :
    PS X (.For (.Name x px) iter sa [] pos) (denS X.K Y (loopM cs i fa)) := ps_imp (ps_for hp hc hi (pg_name nd hN hx hf) hb hs) fun _ _ _ => den_for hw
/-! ### comprehensions -/
theorem tsN : PTs X [] (denT X.K Y (ret true)) := ⟨fun pins s σ H Q I h => pts_nil.run pins s σ H Q I (by
  obtain ⟨C, W, s, at', p⟩ := h
  exact p W H (Vw.Le.refl _) at')⟩
theorem olc (i : Nat) {x : Str} {elt iter : Expr} {ifs : List Expr} {scope : Scope} {own : List (Str × Nat)} {wi : TI} {cs : M (List PV)} (hc : X.calm = true) (nd : X.N.Nodup) (hi : PI X (.Name x px) iter wi) (hw : SrcOk Y wi X.K cs) (ok : BlkOk X.N X.env.scope scope own) (hio : i ∈ own.map (·.2))
    (hg : ∀ (s : Shared) (H : Hp) (C : Addr) (cl : List (Str × Addr)) (fp : List Addr), PG (X.blk s H scope (compEnvC scope cl C X.env) fp) (.Name x px) (gName i)) (ht : ∀ (s : Shared) (H : Hp) (C : Addr) (cl : List (Str × Addr)) (fp : List Addr), PTs (X.blk s H scope (compEnvC scope cl C X.env) fp) ifs (denT X.K yF tc))
    (he : ∀ (s : Shared) (H : Hp) (C : Addr) (cl : List (Str × Addr)) (fp : List Addr), PE (X.blk s H scope (compEnvC scope cl C X.env) fp) elt (den X.K yF ce)) (hs : ∀ x, foldedSetIterable iter X.env x = pure x := by intro _; rfl) :
    PE X (.ListComp elt [⟨.Name x px, iter, ifs, 0⟩] scope pos) (denO X.K Y (lcM cs i (own.map (·.2)) tc ce)) := pe_imp (pe_lc hc nd hi ok hg ht he hs) fun _ _ _ => den_lc hw hio
/-! ### methods of lists that a name owns -/
theorem xapp (i : Nat) {x : Str} {apos : Pos} (he : PE X e (den X.K Y ce)) (hN : X.N[i]? = some x := by rfl) (hv : Vis X.env.scope x := by first | exact Or.inl rfl | exact Or.inr (Or.inl rfl) | exact Or.inr (Or.inr rfl)) (hd : (x == ("__debug__" : Str)) = false := by decide) (hcd : (x == ("__classdict__" : Str)) = false := by decide)
    (hbase : attributeBase (.Name x px) "append" X.env (eval (.Name x px) X.env) = eval (.Name x px) X.env := by rfl)
    (hfew : ((backTo pos (starEach [e] X.env)).all (fun x => !x.1) && (backToKw pos (keywordEach [] X.env)).all (fun x => x.1.isSome) && decide ([e].length + ([] : List Keyword).length + (if ([] : List Keyword).isEmpty then 0 else 1) < 30)) = true := by rfl)
    (hline : (apos.endLine == pos.line) = true := by rfl) (hs : starEach [e] X.env = (false, eval e X.env) :: starEach [] X.env := by rfl) (hplain : (backTo pos (starEach [] X.env)).any (·.1) = false := by rfl) :
    PE X (.Call (.Attribute (.Name x px) "append" apos) [e] [] pos) (den X.K Y (appM i ce)) :=
  pe_imp (pe_bm PySem.F.plainAttrs_list PySem.F.slot_list_append PySem.F.type_list_append mt_append (pe_var hN hv hd hcd) (pa_cons he pa_nil hs) hbase hfew hline hs hplain) fun _ _ _ => den_app
/-! ### dict displays: handles -/
theorem kN : PPs X pos [] [] (trsOf X.K Y []) := pps_nil
theorem kC {x : Str} {j : Nat} {p2 : Pos} {v : Expr} {ks : List (Option Expr)} {vs : List Expr} {cv : M PV} {r : List (Str × M PV)} (hv : PE X v (den X.K Y cv)) (hr : PPs X pos ks vs (trsOf X.K Y r)) : PPs X pos (some (.Constant (.str x) j p2) :: ks) (v :: vs) (trsOf X.K Y ((x, cv) :: r)) := pps_cons pe_str hv hr
/-! ### calls -/
theorem xcall {m : Fn} {np : Nat} {cs : M (List PV)} {x : Str} {f : Addr} {fd : FuncData} {ps : List Str} (n : Nat) (F : FnG X.prog X.w X.K X.mg X.base (L2.CX X.prog X.w) k f fd ps (spM X.K np m)) (hl : ∀ n ds st, m n ds st ≠ .stk → ds.length = np) (hgd : X.A.guards = some []) (hr : Room k X.A) (tk : Takes X Y) (hm : X.mg x = some (.ref f)) (hk : PySem.W.keepIn X.K (.ref f) = true)
    (hb : Binds X.K fd ps []) (ha : PA X (e :: es) (denA X.K Y cs)) (hg : Gl X x := by rfl) (hdb : (x == ("__debug__" : Str)) = false := by decide) (he : starEach (e :: es) X.env = (false, eval e X.env) :: starEach es X.env := by rfl) (hpl : (backTo pos (starEach es X.env)).any (·.1) = false := by rfl) :
    PE X (.Call (.Name x p) (e :: es) [] pos) (den X.K Y (callM m n cs)) := pe_imp (pe_callG F hgd hr hg hm hk hb (fun σ => passAt tk σ) ha hdb he hpl) fun _ _ _ => den_call (hl n)
end
theorem takesF {X : Cx} : Takes X yF := fun _ _ x => by
  obtain ⟨_, _, _, _, _, _, _, _, _, _, _, _, _, _, _, _, w⟩ := x
  exact w.elim
theorem roomU {k : Nat} {A : Around} (h : Room k A) : A.units + 128 < cLine := by have := h.un; omega
/-- what a def of the text needs to be called -/
structure Df (P : Program) (w : World) (K : PySem.W.Frag) (mg : Str → Option Value) (base : Heap) (k : Nat) (x : Str) (ps : List Str) (m : Fn) : Prop where
  ex : ∃ (f : Addr) (fd : FuncData), FnG P w K mg base (L2.CX P w) k f fd ps (spM K ps.length m) ∧ mg x = some (.ref f) ∧ PySem.W.keepIn K (.ref f) = true ∧ Binds K fd ps []
  len : ∀ n ds st, m n ds st ≠ .stk → ds.length = ps.length
theorem xdef {Y : WX} {X : Cx} {k j : Nat} {x : Str} {ps : List Str} {m : Fn} {cs : M (List PV)} {e : Expr} {es : List Expr} {p pos : Pos} (n : Nat) (F : Df X.prog X.w X.K X.mg X.base j x ps m) (hgd : X.A.guards = some []) (hr : Room k X.A) (tk : Takes X Y) (hjk : j ≤ k) (ha : PA X (e :: es) (denA X.K Y cs)) (hg : Gl X x := by rfl)
    (hdb : (x == ("__debug__" : Str)) = false := by decide) (he : starEach (e :: es) X.env = (false, eval e X.env) :: starEach es X.env := by rfl) (hpl : (backTo pos (starEach es X.env)).any (·.1) = false := by rfl) :
    PE X (.Call (.Name x p) (e :: es) [] pos) (den X.K Y (callM m n cs)) := by
  obtain ⟨f, fd, G, hm, hk, hb⟩ := F.ex
  exact xcall n G F.len hgd (hr.mono hjk) tk hm hk hb ha hg hdb he hpl
end Dn
/-! Den9: the law's end. -/
namespace Dn
open PySem L2 PySem.Spec PyProof.Rows
theorem xdisp {X : Cx} {keys : List (Option Expr)} {values : List Expr} {pos : Pos} {kcs : List (Str × M PV)} (h : PPs X pos keys values (trsOf X.K Y kcs)) (hall : keys.all (·.isSome) = true := by rfl) (hl : keys.length = values.length := by rfl) (h0 : keys ≠ [] := by exact fun z => by cases z) (h15 : keys.length ≤ 15 := by decide) :
    PE X (.Dict keys values pos) (den X.K Y (dispM kcs)) := pe_imp (pe_disp h hall hl h0 h15) fun _ _ _ => den_disp
/-! ### a, b = e -/
def gNs : List Nat → TGs
  | [] => gNil
  | i :: r => gCons (gName i) (gNs r)
def setAll : List Nat → List PV → M Fl
  | [], [] => ret .nx
  | i :: is, d :: ds => bnd (setV i d) fun _ => setAll is ds
  | _, _ => stuck
def unpM (is : List Nat) (c : M PV) : M Fl := bnd c fun d => match d with
  | .tup xs => if xs.length = is.length then setAll is xs else stuck
  | _ => stuck
theorem den_setAll {K : PySem.W.Frag} : ∀ (is : List Nat) (ds : List PV) {C : Ctx} {W : Vw} {s : S} {σ : L2.St} {H : Hp} {D : Ends} {vs : List V}, At K C W s σ H → Reps K W vs ds → PstS K C W D (setAll is ds s) → gNs is vs σ H D.nx
  | [], [], C, W, s, σ, H, D, vs, a, r, p => by
    cases r
    exact ⟨rfl, p W σ H (Vw.Le.refl _) a⟩
  | i :: is, d :: ds, C, W, s, σ, H, D, vs, a, r, p => by
    cases r with
    | cons r rs => exact ⟨_, _, rfl, den_setAll is ds (a.set r i) rs p⟩
  | [], _ :: _, _, _, _, _, _, _, _, _, _, p => p.elim
  | _ :: _, [], _, _, _, _, _, _, _, _, _, p => p.elim
theorem den_unp {K : PySem.W.Frag} {is : List Nat} {ca : M PV} {D : Ends} {σ : L2.St} {H : Hp} (h : denS K Y (unpM is ca) D σ H) : tAsg (den K Y ca) (gTup K is.length (gNs is)) D σ H := by
  obtain ⟨C, W, s, at', p⟩ := h
  refine ⟨C, W, s, at', (PstS.bnd p).imp fun d s1 W1 H1 l1 at1 p1 v rv => ?_⟩
  cases d <;> try exact p1.elim
  rename_i xs
  cases rv with
  | tup hq rs =>
    have p2 : PstS K (C.wi Y) W1 D ((if xs.length = is.length then setAll is xs else stuck) s1) := p1
    by_cases hl : xs.length = is.length
    · rw [if_pos hl] at p2
      exact ⟨_, _, rfl, same_t at1.ok.sub hq, by rw [rs.length]; exact hl, den_setAll _ _ at1 rs p2⟩
    · rw [if_neg hl] at p2
      exact p2.elim
theorem gn {X : Cx} (i : Nat) {x : Str} {px : Pos} (nd : X.N.Nodup) (hN : X.N[i]? = some x := by rfl) (hx : Loc X.env.scope x := by first | exact Or.inl rfl | exact Or.inr rfl) (hf : X.fn x = true ∨ X.env.scope.names.lookup x = some .local := by first | exact .inl rfl | exact .inr rfl | assumption) : PG X (.Name x px) (gName i) := pg_name nd hN hx hf
theorem sunp {X : Cx} (is : List Nat) {ca : M PV} {e : Expr} {es : List Expr} {pos pt : Pos} {kt : Nat} (hc : X.calm = true) (he : PE X e (den X.K Y ca)) (hg : PGs X es (gNs is)) (hn : (assignEach es X.env).length = is.length := by rfl) (hst : (assignEach es X.env).findIdx? (·.1) = none := by rfl)
    (hs : swapsWithSole [.Tuple es kt pt] e pos.line X.env = pure false := by rfl) (hw : swappedStores [.Tuple es kt pt] e X.env = pure none := by rfl) (h1 : (assignEach [.Tuple es kt pt] X.env).map (·.2) = [assign (.Tuple es kt pt) X.env] := by rfl) :
    PS X (.Assign [.Tuple es kt pt] e pos) (denS X.K Y (unpM is ca)) := ps_imp (ps_asg he (pg_tup hc hg hn hst) hs hw h1) fun _ _ _ => den_unp
/-! ### -e -/
def negP : PV → Option PV
  | .int i => some (.int (-i))
  | _ => none
abbrev fNeg (a : PV) : M PV := lft (negP a)
theorem den_neg {K : PySem.W.Frag} {ca : M PV} {σ : L2.St} {H : Hp} {Q : VK} (h : den K Y (bnd ca fNeg) σ H Q) : tUn (rU fun i => .int (-i)) (den K Y ca) σ H Q := by
  obtain ⟨C, W, s, at', p⟩ := h
  refine ⟨C, W, s, at', (Pst.bnd p).imp fun a s1 W1 H1 l1 at1 p1 v rv => ?_⟩
  obtain ⟨d, e, q⟩ := p1.lft'
  have q0 := q W1 H1 (Vw.Le.refl W1) at1
  unfold negP at e
  split at e
  · cases e
    cases rv
    exact ⟨_, rfl, q0 _ (.int _)⟩
  · cases e
theorem xneg {X : Cx} {e : Expr} {ce : M PV} {pos : Pos} (h : PE X e (den X.K Y ce)) : PE X (.UnaryOp .USub e pos) (den X.K Y (bnd ce fNeg)) := pe_imp (pe_un un_neg h) fun _ _ _ => den_neg
/-- the script's place: known to the object, or one of the module's own -/
def scrH (K : PySem.W.Frag) (a : Addr) (ob : Obj) (ns : List Int) : Hp := fun b => if b = a ∧ K.lookup a = none then some (.frz ob (.lst (ns.map V.int))) else none
end Dn
/-! Ob1: instances: made as two handles (the object, its dict), frozen when they are done. -/
namespace Dn
open PySem L2 PySem.Spec PyProof.Rows
section
variable {Y : WX} {K : PySem.W.Frag} {C : Ctx} {W W' : Vw} {σ : L2.St} {H : Hp} {s : S} {x dx Cc : Addr} {c : Str} {Q : VK}
theorem two_left {α : Type} {l : List α} {a b : α} {n : Nat} (h : n < l.length) : (l ++ [a, b])[n]? = l[n]? := List.getElem?_append_left h
theorem two_0 {α : Type} {l : List α} {a b : α} : (l ++ [a, b])[l.length]? = some a := by
  rw [List.getElem?_append_right (Nat.le_refl _), Nat.sub_self]
  rfl
theorem two_1 {α : Type} {l : List α} {a b : α} : (l ++ [a, b])[l.length + 1]? = some b := by
  rw [List.getElem?_append_right (Nat.le_succ _), show l.length + 1 - l.length = 1 by omega]
  rfl
theorem two_cases {α : Type} {l : List α} {a b z : α} {n : Nat} (h : (l ++ [a, b])[n]? = some z) : (n < l.length ∧ l[n]? = some z) ∨ (n = l.length ∧ z = a) ∨ (n = l.length + 1 ∧ z = b) := by
  have hlt := (List.getElem?_eq_some_iff.mp h).1
  rw [List.length_append] at hlt
  have hlt : n < l.length + 2 := hlt
  by_cases h1 : n < l.length
  · rw [two_left h1] at h
    exact .inl ⟨h1, h⟩
  · by_cases h2 : n = l.length
    · subst h2
      rw [two_0] at h
      exact .inr (.inl ⟨rfl, (Option.some.inj h).symm⟩)
    · have h3 : n = l.length + 1 := by omega
      subst h3
      rw [two_1] at h
      exact .inr (.inr ⟨rfl, (Option.some.inj h).symm⟩)
/-- a new instance and its dict: two handles -/
theorem At.newI (h : At K C W s σ H) (hx : H x = none) (hd : H dx = none) (ne : dx ≠ x) (hc : ClsAt K c Cc) :
    W.Le ⟨W.F, W.hs ++ [x, dx]⟩ ∧ At K C ⟨W.F, W.hs ++ [x, dx]⟩ { s with sto := s.sto ++ [.ins c [] [], .own s.sto.length] } σ (upd (upd H dx (.own x)) x (.ins Cc dx [])) ∧ Rep K ⟨W.F, W.hs ++ [x, dx]⟩ (.ref x) (.hnd s.sto.length) := by
  obtain ⟨f1, f2, f3⟩ := h.fresh hx
  obtain ⟨g1, g2, g3⟩ := h.fresh hd
  have len := h.ok.len
  have le : W.Le ⟨W.F, W.hs ++ [x, dx]⟩ := ⟨Same.refl _, fun n a e => by
    show (W.hs ++ [x, dx])[n]? = _
    rw [two_left (List.getElem?_eq_some_iff.mp e).1]
    exact e⟩
  have h0 : (W.hs ++ [x, dx])[s.sto.length]? = some x := by rw [len]; exact two_0
  have h1 : (W.hs ++ [x, dx])[s.sto.length + 1]? = some dx := by rw [len]; exact two_1
  have eo : ∀ {b : Addr}, b ≠ x → b ≠ dx → upd (upd H dx (.own x)) x (.ins Cc dx []) b = H b := fun {b} n1 n2 => by rw [upd_ne n1, upd_ne n2]
  refine ⟨le, ⟨⟨fun b u e => ?_, fun n b e => ?_, ?_, ?_, TabK.upd (TabK.upd h.ok.tab.hs (no_tbl0 hd)) (fun ps z => by rw [upd_ne ne.symm, hx] at z; cases z)⟩, fun b u e hb => ?_, fun n b e => le.pre n b (h.pre n b e), fun b hb => ?_, h.len, fun j e he => ?_, fun j ys e => ?_, h.dst⟩, .hnd h0⟩
  · rw [eo (fun z => by rw [z, f1] at e; cases e) (fun z => by rw [z, g1] at e; cases e)]
    exact h.ok.sub b u e
  · have e : (W.hs ++ [x, dx])[n]? = some b := e
    rcases two_cases e with ⟨hn, e⟩ | ⟨hn, rfl⟩ | ⟨hn, rfl⟩
    · have nb : b ≠ x ∧ b ≠ dx := ⟨fun z => f2 (z ▸ List.mem_of_getElem? e), fun z => g2 (z ▸ List.mem_of_getElem? e)⟩
      refine (h.ok.hnd n b e).map rfl ?_ fun mo r => (r.at (eo nb.1 nb.2)).mono le
      show (s.sto ++ _)[n]? = _
      rw [two_left (by rw [len]; exact hn)]
    · refine .inl ⟨f1, .ins c [] [], ?_, .ins (n := s.sto.length) (us := []) hc ?_ h0 h1 rfl .nil⟩
      · show (s.sto ++ [_, _])[n]? = _
        rw [hn, ← len]
        exact two_0
      · exact upd_same
    · refine .inl ⟨g1, .own s.sto.length, ?_, .own h0 ?_⟩
      · show (s.sto ++ [_, _])[n]? = _
        rw [hn, ← len]
        exact two_1
      · rw [upd_ne ne, upd_same]
  · show (W.hs ++ [x, dx]).Nodup
    rw [List.nodup_append]
    refine ⟨h.ok.nd, by simp [ne.symm], fun a ha b hb z => ?_⟩
    subst z
    simp only [List.mem_cons, List.not_mem_nil, or_false] at hb
    rcases hb with rfl | rfl
    · exact f2 ha
    · exact g2 ha
  · show (s.sto ++ _).length = (W.hs ++ _).length
    rw [List.length_append, List.length_append, len]
    rfl
  · rw [eo (fun z => by rw [z, f3] at e; cases e) (fun z => by rw [z, g3] at e; cases e)]
    exact h.keep b u e hb
  · obtain ⟨k1, k2⟩ := h.gro b hb
    refine ⟨k1, fun hm => ?_⟩
    rcases List.mem_append.mp hm with hm | hm
    · exact k2 hm
    · simp only [List.mem_cons, List.not_mem_nil, or_false] at hm
      rcases hm with rfl | rfl
      · exact absurd f3 hb
      · exact absurd g3 hb
  · obtain ⟨v, e1, r⟩ := h.val j e he
    exact ⟨v, e1, r.mono le⟩
  · obtain ⟨b, ws, e1, ow, e2, r2⟩ := h.own j ys e
    have n1 : b ≠ x := ne_of_none e2 hx
    have n2 : b ≠ dx := ne_of_none e2 hd
    refine ⟨b, ws, e1, ⟨ow.f, fun hm => ?_, ow.g⟩, by rw [eo n1 n2]; exact e2, r2.mono le⟩
    rcases List.mem_append.mp hm with hm | hm
    · exact ow.h hm
    · simp only [List.mem_cons, List.not_mem_nil, or_false] at hm
      rcases hm with rfl | rfl
      · exact n1 rfl
      · exact n2 rfl
/-- a handle of this body's making is nothing of the callers' -/
theorem At.mine {n : Nat} {a : Addr} (h : At K C W s σ H) (hn : C.hs0.length ≤ n) (e : W.hs[n]? = some a) : C.G a = none ∧ a ∉ C.hs0 := by
  have no : a ∉ C.hs0 := fun hm => by
    obtain ⟨m, hm⟩ := List.getElem?_of_mem hm
    have e2 := h.pre m a hm
    obtain ⟨l1, y1⟩ := List.getElem?_eq_some_iff.mp e
    obtain ⟨l2, y2⟩ := List.getElem?_eq_some_iff.mp e2
    have : n = m := (List.getElem_inj h.ok.nd).mp (y1.trans y2.symm)
    have := (List.getElem?_eq_some_iff.mp hm).1
    omega
  refine ⟨?_, no⟩
  cases z : C.G a with
  | none => rfl
  | some o => exact absurd ((h.gro a (by rw [z]; exact fun q => nomatch q)).2 (List.mem_of_getElem? e)) no
/-- the instance at the handle k is done: it is a value from now on -/
theorem At.done {k : Nat} {ks : List Str} {vs : List PV} (h : At K C W s σ H) (hk : C.hs0.length ≤ k) (hx : W.hs[k]? = some x) (e1 : s.sto[k]? = some (.ins c ks vs)) (e2 : s.sto[k + 1]? = some (.own k)) :
    ∃ W', W.Le W' ∧ At K C W' { s with sto := (s.sto.set k .gone).set (k + 1) .gone } σ H ∧ Rep K W' (.ref x) (.obj c ks vs) := by
  obtain ⟨fx, mx⟩ := h.ok.live hx e1 (fun z => nomatch z)
  cases mx with
  | @ins Cc dx n _ _ us _ hc hH hn hn1 hl ru =>
  have ix : ∀ {m m' : Nat} {a : Addr}, W.hs[m]? = some a → W.hs[m']? = some a → m = m' := fun {m m' a} p q => by
    obtain ⟨l1, y1⟩ := List.getElem?_eq_some_iff.mp p
    obtain ⟨l2, y2⟩ := List.getElem?_eq_some_iff.mp q
    exact (List.getElem_inj h.ok.nd).mp (y1.trans y2.symm)
  have hnk : n = k := ix hn hx
  subst hnk
  obtain ⟨fd, md⟩ := h.ok.live hn1 e2 (fun z => nomatch z)
  cases md with
  | @own m x' hm hHd =>
  rw [hx] at hm
  cases hm
  have ne : dx ≠ x := fun z => by
    have := ix hn1 (z ▸ hx)
    omega
  obtain ⟨gx, nx⟩ := h.mine hk hx
  obtain ⟨gd, nd⟩ := h.mine (Nat.le_succ_of_le hk) hn1
  let F' : Hp := upd (upd W.F x (.ins Cc dx (ks.zip us))) dx (.own x)
  have eF : ∀ {b : Addr}, b ≠ x → b ≠ dx → F' b = W.F b := fun {b} n1 n2 => by
    show upd (upd W.F x _) dx _ b = _
    rw [upd_ne n2, upd_ne n1]
  have Fx : F' x = some (.ins Cc dx (ks.zip us)) := by
    show upd (upd W.F x _) dx _ x = _
    rw [upd_ne ne.symm, upd_same]
  have Fd : F' dx = some (.own x) := upd_same
  have le : W.Le ⟨F', W.hs⟩ := ⟨fun b u e => (eF (fun z => by rw [z, fx] at e; cases e) (fun z => by rw [z, fd] at e; cases e)).trans e, fun _ _ e => e⟩
  have l1 : n < s.sto.length := (List.getElem?_eq_some_iff.mp e1).1
  have l2 : n + 1 < s.sto.length := (List.getElem?_eq_some_iff.mp e2).1
  refine ⟨⟨F', W.hs⟩, le, ⟨⟨fun b u e => ?_, fun m b e => ?_, h.ok.nd, ?_, h.ok.tab.up le.ex fun P ps e f => ⟨(eF (fun z => by rw [z, hH] at e; cases e) (fun z => by rw [z, hHd] at e; cases e)).trans f, e⟩⟩, h.keep, h.pre, fun b hb => ?_, h.len, fun j e he => ?_, fun j ys e => ?_, h.dst⟩, .obj hc Fx Fd hl (ru.mono le)⟩
  · have e : F' b = some u := e
    by_cases hb : b = x
    · subst hb
      rw [Fx] at e
      rw [hH]
      exact e
    · by_cases hb2 : b = dx
      · subst hb2
        rw [Fd] at e
        rw [hHd]
        exact e
      · rw [eF hb hb2] at e
        exact h.ok.sub b u e
  · by_cases hm : m = n
    · subst hm
      have hbx : b = x := by
        have e : W.hs[m]? = some b := e
        rw [hx] at e
        exact (Option.some.inj e).symm
      subst hbx
      refine .inr ⟨by (show F' b ≠ none; rw [Fx]; exact fun z => nomatch z), ?_⟩
      show ((s.sto.set m .gone).set (m + 1) .gone)[m]? = _
      rw [List.getElem?_set_ne (by omega), List.getElem?_set_self l1]
    · by_cases hm2 : m = n + 1
      · subst hm2
        have hbd : b = dx := by
          have e : W.hs[n + 1]? = some b := e
          rw [hn1] at e
          exact (Option.some.inj e).symm
        subst hbd
        refine .inr ⟨by (show F' b ≠ none; rw [Fd]; exact fun z => nomatch z), ?_⟩
        show ((s.sto.set n .gone).set (n + 1) .gone)[n + 1]? = _
        rw [List.getElem?_set_self (by rw [List.length_set]; exact l2)]
      · have n1 : b ≠ x := fun z => hm (ix e (z ▸ hx))
        have n2 : b ≠ dx := fun z => hm2 (ix e (z ▸ hn1))
        refine (h.ok.hnd m b e).map (eF n1 n2) ?_ fun mo r => r.mono le
        show ((s.sto.set n .gone).set (n + 1) .gone)[m]? = _
        rw [List.getElem?_set_ne (fun z => hm2 z.symm), List.getElem?_set_ne (fun z => hm z.symm)]
  · show ((s.sto.set n .gone).set (n + 1) .gone).length = _
    rw [List.length_set, List.length_set]
    exact h.ok.len
  · obtain ⟨k1, k2⟩ := h.gro b hb
    exact ⟨(eF (fun z => hb (by rw [z]; exact gx)) (fun z => hb (by rw [z]; exact gd))).trans k1, k2⟩
  · obtain ⟨v, q1, r⟩ := h.val j e he
    exact ⟨v, q1, r.mono le⟩
  · obtain ⟨b, ws, q1, ow, q2, r2⟩ := h.own j ys e
    have n1 : b ≠ x := fun z => ow.h (z ▸ List.mem_of_getElem? hx)
    have n2 : b ≠ dx := fun z => ow.h (z ▸ List.mem_of_getElem? hn1)
    exact ⟨b, ws, q1, ⟨(eF n1 n2).trans ow.f, ow.h, ow.g⟩, q2, r2.mono le⟩
end
end Dn
/-! Ob2: attributes of instances, read and stored. -/
namespace Dn
open PySem L2 PySem.Spec PyProof.Rows
def putKV (f : Str) (v : PV) : List Str → List PV → List Str × List PV
  | k :: ks, w :: vs => if k = f then (k :: ks, v :: vs) else let r := putKV f v ks vs; (k :: r.1, w :: r.2)
  | _, _ => ([f], [v])
section
variable {Y : WX} {K : PySem.W.Frag} {C : Ctx} {W W' : Vw} {σ : L2.St} {H : Hp} {s : S} {Q : VK} {ca cv : M PV} {D : Ends} {f : Str} {ks : List Str} {us : List V} {vs : List PV} {d : PV} {y : V}
theorem zip_look : ∀ {ks : List Str} {us : List V} {vs : List PV} {d : PV}, Reps K W us vs → (ks.zip vs).lookup f = some d → ∃ v, (ks.zip us).lookup f = some v ∧ Rep K W v d
  | [], _, _, _, _, h => by cases h
  | k :: ks, _, _, _, .nil, h => by cases h
  | k :: ks, u :: us, v :: vs, d, .cons r rs, h => by
    rw [List.zip_cons_cons, List.lookup] at h ⊢
    cases e : f == k with
    | true =>
      rw [e] at h
      cases h
      exact ⟨u, rfl, r⟩
    | false =>
      rw [e] at h
      exact zip_look rs h
theorem zip_none : ∀ {ks : List Str} {us : List V} {vs : List PV}, Reps K W us vs → ks.length = vs.length → (ks.zip vs).lookup f = none → (ks.zip us).lookup f = none
  | [], _, _, _, _, _ => rfl
  | k :: ks, _, _, .nil, l, _ => by cases l
  | k :: ks, u :: us, v :: vs, .cons r rs, l, h => by
    rw [List.zip_cons_cons, List.lookup] at h ⊢
    cases e : f == k with
    | true => rw [e] at h; cases h
    | false =>
      rw [e] at h
      exact zip_none rs (by simpa using l) h
theorem zip_put (ry : Rep K W y d) : ∀ {ks : List Str} {us : List V} {vs : List PV}, Reps K W us vs → ks.length = vs.length → ∃ us', putF f y (ks.zip us) = (putKV f d ks vs).1.zip us' ∧ Reps K W us' (putKV f d ks vs).2 ∧ (putKV f d ks vs).1.length = (putKV f d ks vs).2.length
  | [], us, [], r, _ => by
    cases r
    exact ⟨[y], rfl, .cons ry .nil, rfl⟩
  | [], _, _ :: _, _, l => by cases l
  | k :: ks, _, _, .nil, l => by cases l
  | k :: ks, u :: us, v :: vs, .cons r rs, l => by
    have l' : ks.length = vs.length := by simpa using l
    show ∃ us', putF f y ((k, u) :: ks.zip us) = _ ∧ _
    unfold putF putKV
    by_cases h : k = f
    · rw [if_pos h, if_pos h]
      exact ⟨y :: us, rfl, .cons ry rs, by simpa using l'⟩
    · rw [if_neg h, if_neg h]
      obtain ⟨us', e1, e2, e3⟩ := zip_put ry rs l'
      exact ⟨u :: us', by rw [e1]; rfl, .cons r e2, by simpa using e3⟩
/-- an instance where it stands: a value, or a handle -/
def insOf (s : S) : PV → Option (Str × List Str × List PV)
  | .obj c ks vs => some (c, ks, vs)
  | .hnd n => match s.sto[n]? with
    | some (.ins c ks vs) => some (c, ks, vs)
    | _ => none
  | _ => none
theorem insOf_rep {x : V} {c : Str} (h : At K C W s σ H) (r : Rep K W x d) (e : insOf s d = some (c, ks, vs)) : ∃ a Cc dx us, x = .ref a ∧ ClsAt K c Cc ∧ H a = some (.ins Cc dx (ks.zip us)) ∧ ks.length = vs.length ∧ Reps K W us vs := by
  cases r <;> try (have e : (none : Option (Str × List Str × List PV)) = some (c, ks, vs) := e; cases e)
  · rename_i a n hn
    unfold insOf at e
    dsimp only at e
    split at e
    · rename_i hs
      cases e
      cases (h.ok.live hn hs (fun z => nomatch z)).2 with
      | ins hc hH _ _ l ru => exact ⟨a, _, _, _, rfl, hc, hH, l, ru⟩
    · cases e
  · rename_i hc hF hd l ru
    cases e
    exact ⟨_, _, _, _, rfl, hc, h.ok.sub _ _ hF, l, ru⟩
theorem cls_uniq {c : Str} {C1 C2 : Addr} (h1 : ClsAt K c C1) (h2 : ClsAt K c C2) : C1 = C2 := by
  have h1 : PySem.W.nsIn K mainGlobals c = some (some (.ref C1)) := h1
  have h2 : PySem.W.nsIn K mainGlobals c = some (some (.ref C2)) := h2
  rw [h1] at h2
  cases h2
  rfl
/-- the classes of these names have no attribute f of their own -/
def FldOk (K : PySem.W.Frag) (f : Str) (cs : List Str) : Prop := ∀ c ∈ cs, ∃ Cc, ClsAt K c Cc ∧ Cls K Cc ∧ NoAttr K Cc f
/-- e.f -/
def fldM (cs : List Str) (f : Str) (d : PV) : M PV := fun s => match insOf s d with
  | some (c, ks, vs) => if c ∈ cs then (match (ks.zip vs).lookup f with
    | some v => .ok v s
    | none => .stk) else .stk
  | none => .stk
theorem den_fld {cs : List Str} (F : FldOk K f cs) (h : den K Y (bnd ca (fldM cs f)) σ H Q) : tFld K (den K Y ca) f σ H Q := by
  obtain ⟨C, W, s, at', p⟩ := h
  refine ⟨C, W, s, at', (Pst.bnd p).imp fun d s1 W1 H1 l1 at1 p1 x rx => ?_⟩
  unfold fldM at p1
  split at p1
  · rename_i c ks vs e
    split at p1
    · rename_i hc
      split at p1
      · rename_i v hv
        obtain ⟨a, Cc, dx, us, rfl, h1, h2, l, ru⟩ := insOf_rep at1 rx e
        obtain ⟨C2, k1, k2, k3⟩ := F c hc
        cases cls_uniq h1 k1
        obtain ⟨v', e2, r2⟩ := zip_look ru hv
        exact ⟨a, Cc, dx, _, v', rfl, h2, k2, k3, e2, p1 W1 H1 (Vw.Le.refl _) at1 _ r2⟩
      · exact p1.elim
    · exact p1.elim
  · exact p1.elim
/-- e.f = v, e a handle -/
def fputM (cs : List Str) (f : Str) (cd cv : M PV) : M Fl := bnd cv fun v => bnd cd fun d => fun s => match d with
  | .hnd n => match s.sto[n]? with
    | some (.ins c ks vs) => if c ∈ cs ∧ ks.length < 1000 then .ok .nx { s with sto := s.sto.set n (.ins c (putKV f v ks vs).1 (putKV f v ks vs).2) } else .stk
    | _ => .stk
  | _ => .stk
theorem den_fput {cs : List Str} {cd : M PV} (F : FldOk K f cs) (h : denS K Y (fputM cs f cd cv) D σ H) : sFld K (den K Y cd) (den K Y cv) f D σ H := by
  obtain ⟨C, W, s, at', p⟩ := h
  refine ⟨C, W, s, at', (PstS.bnd p).imp fun v s1 W1 H1 l1 at1 p1 y ry => ⟨C, W1, s1, at1, (PstS.bnd p1).imp fun d s2 W2 H2 l2 at2 p2 x rx => ?_⟩⟩
  split at p2
  · rename_i n
    split at p2
    · rename_i c ks vs hs
      split at p2
      · rename_i hc
        cases rx with
        | @hnd a _ hn =>
        obtain ⟨fa, mr⟩ := at2.ok.live hn hs (fun z => nomatch z)
        cases mr with
        | @ins Cc dx m _ _ us _ hC hH hm hm1 hl ru =>
        obtain ⟨C2, k1, k2, k3⟩ := F c hc.1
        cases cls_uniq hC k1
        obtain ⟨us', e1, e2, e3⟩ := zip_put (f := f) (ry.mono l2) ru hl
        refine ⟨a, Cc, dx, _, rfl, hH, k2, k3, ?_, ?_⟩
        · rw [List.length_zip, ru.length, ← hl, Nat.min_self]
          exact hc.2
        · rw [e1]
          exact p2 W2 _ _ (Vw.Le.refl _) (at2.putG hn hs (fun z => nomatch z) (.ins hC upd_same hm hm1 e3 e2))
      · exact p2.elim
    · exact p2.elim
  · exact p2.elim
/-- a constant of the class, an int -/
def ConOk (K : PySem.W.Frag) (f : Str) (i : Int) (cs : List Str) : Prop := ∀ c ∈ cs, ∃ Cc u, ClsAt K c Cc ∧ Cls K Cc ∧ Con K Cc f (.int i) u
def conM (cs : List Str) (f : Str) (i : Int) (d : PV) : M PV := fun s => match insOf s d with
  | some (c, ks, vs) => if c ∈ cs ∧ (ks.zip vs).lookup f = none then .ok (.int i) s else .stk
  | none => .stk
theorem den_con {cs : List Str} {i : Int} (F : ConOk K f i cs) (h : den K Y (bnd ca (conM cs f i)) σ H Q) : tCon K (den K Y ca) f σ H Q := by
  obtain ⟨C, W, s, at', p⟩ := h
  refine ⟨C, W, s, at', (Pst.bnd p).imp fun d s1 W1 H1 l1 at1 p1 x rx => ?_⟩
  unfold conM at p1
  split at p1
  · rename_i c ks vs e
    split at p1
    · rename_i hc
      obtain ⟨a, Cc, dx, us, rfl, h1, h2, l, ru⟩ := insOf_rep at1 rx e
      obtain ⟨C2, u, k1, k2, k3⟩ := F c hc.1
      cases cls_uniq h1 k1
      exact ⟨a, Cc, dx, _, _, u, rfl, h2, k2, k3, zip_none ru l hc.2, p1 W1 H1 (Vw.Le.refl _) at1 _ (.int i)⟩
    · exact p1.elim
  · exact p1.elim
end
section
variable {Y : WX} {X : Cx} {e o v : Expr} {f : Str} {pos p2 : Pos} {ce co cv : M PV}
theorem xfld {cs : List Str} (F : FldOk X.K f cs) (he : PE X e (den X.K Y ce)) (hb : attributeBase e f X.env (eval e X.env) = eval e X.env := by rfl) : PE X (.Attribute e f pos) (den X.K Y (bnd ce (fldM cs f))) := pe_imp (pe_fld he hb) fun _ _ _ => den_fld F
theorem xcon {cs : List Str} {i : Int} (F : ConOk X.K f i cs) (he : PE X e (den X.K Y ce)) (hb : attributeBase e f X.env (eval e X.env) = eval e X.env := by rfl) : PE X (.Attribute e f pos) (den X.K Y (bnd ce (conM cs f i))) := pe_imp (pe_con he hb) fun _ _ _ => den_con F
theorem sfput {cs : List Str} (F : FldOk X.K f cs) (ho : PE X o (den X.K Y co)) (hv : PE X v (den X.K Y cv)) (hs : swapsWith v (some (.Attribute o f p2)) pos.line X.env = pure false := by rfl) : PS X (.Assign [.Attribute o f p2] v pos) (denS X.K Y (fputM cs f co cv)) := ps_imp (ps_fld ho hv hs) fun _ _ _ => den_fput F
end
end Dn
/-! Ob3: calls with keywords, methods, properties, classes called. -/
namespace Dn
open PySem L2 PySem.Spec PyProof.Rows
/-! ### a call's arguments, stars among them -/
section
open PySem.W PySem.Calls
variable {M : Model} {A : Around} {E : Value → Shared → Prop} {s : Shared}
theorem callWith_any {f : Value} {first : List Value} {pos : Pos} {Q : Value → Shared → Prop} {P : Heap → Prop} {args : List (Bool × Sem Value)} {kws : List (Option Str × Sem Value)}
    (hk : ∀ h, P h → ∃ k, (k = Keeper.frame ∨ k = Keeper.machine ∨ k = Keeper.boundFrame) ∧ Looks M h (keeperOf f) k)
    (h : wpAny M A (evalArgs f true args kws) (fun a s₁ => P s₁.heap ∧ wpAny M A (call f (first ++ a.pos) a.kw) Q E s₁) E s) : wpAny M A (callWith pos f first args kws) Q E s := by
  unfold callWith
  refine wpAny_bind (wpAny_holding (wpAny_mono h (fun a s₁ h₁ => ?_) fun _ _ x => x))
  refine wpAny_bind (wpAny_standAt ?_)
  obtain ⟨k, hk', L⟩ := hk _ h₁.1
  have ends : ∀ {t : Sem Value}, wpAny M A t Q E s₁ → wpAny M A (t >>= fun r => holding [r] point >>= fun _ => pure r) Q E s₁ := fun ht => by
    refine wpAny_bind (wpAny_mono ht (fun r s₂ hr => ?_) fun _ _ x => x)
    exact wpAny_bind (wpAny_holding (wpAny_point (wpAny_pure hr)))
  have mk : ∀ v : Value, wpAny M A (callMarked v f (first ++ a.pos) a.kw) Q E s₁ := fun v => by
    unfold callMarked
    exact Calls.wpAny_keep h₁.2
  generalize (args.any (·.1) || kws.any (·.1.isNone)) = star
  refine wpAny_bind (L.here ?_)
  cases star <;> rcases hk' with rfl | rfl | rfl <;> dsimp only <;> first | exact ends h₁.2 | exact ends (mk _) | exact ends (wpAny_operating h₁.2) | (split <;> first | exact ends h₁.2 | exact ends (mk _))
theorem callWith_KA {K : Frag} {env : PySem.Env} {pos : Pos} {f : Value} {first : List Value} {Q : Value → Shared → Prop} {e : Expr} {rest : List Expr} {kws : List Keyword} (hk : keepIn K f = true) (hall : (backToKw pos (keywordEach kws env)).all (·.1.isSome) = true)
    (h : wpAny M A (spliced (backTo pos (starEach (e :: rest) env))) (fun vs s₁ => wpAny M A (evalAll ((backToKw pos (keywordEach kws env)).map (·.2)))
      (fun ks s₂ => K.In s₂.heap ∧ wpAny M A (call f (first ++ vs) (((backToKw pos (keywordEach kws env)).filterMap (·.1)).zip ks)) Q E s₂) E s₁) E s)
    (he : starEach (e :: rest) env = (false, eval e env) :: starEach rest env) : wpAny M A (callWith pos f first (backTo pos (starEach (e :: rest) env)) (backToKw pos (keywordEach kws env))) Q E s :=
  callWith_any (keeps_K hk) (PyProof.Rows.evalArgs_kw2 hall h he)
end
/-- the def runs -/
def runM (m : Fn) (n : Nat) (ds : List PV) : M PV := fun s => match m n ds s.sto with
  | .ok d st' => .ok d { s with sto := st' }
  | .exc e st' => .exc e { s with sto := st' }
  | .stk => .stk
/-- positional values, then the keywords' -/
def appA (i j : Nat) (ca cb : M (List PV)) : M (List PV) := bnd ca fun a => bnd cb fun b => if a.length = i ∧ b.length = j then ret (a ++ b) else stuck
/-- what a call of that form binds -/
abbrev KB (K : PySem.W.Frag) (fd : FuncData) (ps : List Str) (n : Nat) (ks : List Str) : Prop := KBn K fd ps n ks (fun us ws => us ++ ws) (fun us ws => us ++ ws)
/-- a def and how it is called -/
structure Ent (P : Program) (w : World) (K : PySem.W.Frag) (mg : Str → Option Value) (base : Heap) (k : Nat) (g : Addr) (np n : Nat) (ks : List Str) (m : Fn) : Prop where
  ex : ∃ fd ps, ps.length = np ∧ FnG P w K mg base (L2.CX P w) k g fd ps (spM K np m) ∧ KB K fd ps n ks
  len : ∀ n ds st, m n ds st ≠ .stk → ds.length = np
section
variable {Y : WX} {K : PySem.W.Frag} {C : Ctx} {W W' : Vw} {σ : L2.St} {H : Hp} {s : S} {Q : VK} {np n i j : Nat} {m : Fn} {ca cb : M (List PV)} {ds : List PV} {vs : List V}
theorem sp_run (hl : ∀ n ds st, m n ds st ≠ .stk → ds.length = np) (a : At K (C.wi Y) W s σ H) (r : Reps K W vs ds) (p : Pst K (C.wi Y) W σ (runM m n ds s) (fun d _ W' H' => ∀ v, Rep K W' v d → Q v H')) : spM K np m vs H Q (WE Y σ) := by
  unfold runM at p
  have len : ∀ {x : RR}, m n ds s.sto = x → x ≠ .stk → vs.length = np := fun {x} e z => by rw [r.length]; exact hl _ _ _ (by rw [e]; exact z)
  cases e : m n ds s.sto with
  | exc x st' =>
    simp only [e] at p
    refine ⟨len e (fun z => nomatch z), n, W, s.sto, ds, a.ok, r, ?_⟩
    rw [e]
    exact fun W' H' cls d l ok g r => p W' σ H' cls d l (a.call l ok g) r
  | stk => simp only [e] at p; exact p.elim
  | ok d st' =>
    simp only [e] at p
    refine ⟨len e (fun z => nomatch z), n, W, s.sto, ds, a.ok, r, ?_⟩
    rw [e]
    exact fun v W' H' l ok g r => p W' H' l (a.call l ok g) v r
/-- both parts of the arguments -/
theorem den_appA {α : Type} {f : List PV → M α} {P : α → S → Vw → Hp → Prop} {QL : List V → List V → Hp → Prop} (a : At K (C.wi Y) W s σ H) (p : Pst K (C.wi Y) W σ (bnd (appA i j ca cb) f s) P)
    (go : ∀ ds es s2 W2 H2, W.Le W2 → At K (C.wi Y) W2 s2 σ H2 → Pst K (C.wi Y) W2 σ (f (ds ++ es) s2) P → ∀ us ws, Reps K W2 us ds → Reps K W2 ws es → us.length = i → ws.length = j → QL us ws H2) :
    denA K Y ca σ H (fun us H1 => denA K Y cb σ H1 (fun ws H2 => QL us ws H2)) := by
  have p0 := Pst.bnd p
  unfold appA at p0
  refine ⟨C, W, s, a, (Pst.bnd p0).imp fun ds s1 W1 H1 l1 a1 p1 us ru => ⟨C, W1, s1, a1, (Pst.bnd p1).imp fun es s2 W2 H2 l2 a2 p2 ws rw' => ?_⟩⟩
  by_cases hc : ds.length = i ∧ es.length = j
  · rw [if_pos hc] at p2
    have p3 := p2 W2 H2 (Vw.Le.refl _) a2
    exact go ds es s2 W2 H2 (l1.trans l2) a2 p3 us ws (ru.mono l2) rw' (ru.length.trans hc.1) (rw'.length.trans hc.2)
  · rw [if_neg hc] at p2
    exact p2.elim
end
/-! ### f(e, .., k = v, ..) -/
section
variable {Y : WX} {X : Cx} {k : Nat} {f g C : Addr} {fd : FuncData} {ps ks : List Str} {sp : Sp} {x m : Str} {p pos apos : Pos} {e o : Expr} {es : List Expr} {kws : List Keyword} {ta : TE} {t tk : TA} {np n i : Nat} {mf : Fn} {ca cb : M (List PV)} {co : M PV}
def tCallG (X : Cx) (Y : WX) (n : Nat) (ks : List Str) (sp : Sp) (t tk : TA) : TE := fun σ H Q => t σ H fun vs H1 => tk σ H1 fun zs H2 => vs.length = n ∧ zs.length = ks.length ∧ sp (vs ++ zs) H2 Q (WE Y σ)
theorem pe_callKG (F : FnG X.prog X.w X.K X.mg X.base (L2.CX X.prog X.w) k f fd ps sp) (hgd : X.A.guards = some []) (hr : Room k X.A) (tY : Takes X Y) (hg : Gl X x) (hm : X.mg x = some (.ref f)) (hk : PySem.W.keepIn X.K (.ref f) = true) (hb : KB X.K fd ps n ks)
    (ha : PA X (e :: es) t) (hkw : PK X kws tk) (hall : (backToKw pos (keywordEach kws X.env)).all (·.1.isSome) = true := by rfl) (hks : (backToKw pos (keywordEach kws X.env)).filterMap (·.1) = ks := by rfl)
    (hdb : (x == ("__debug__" : Str)) = false := by decide) (he : starEach (e :: es) X.env = (false, eval e X.env) :: starEach es X.env := by rfl) :
    PE X (.Call (.Name x p) (e :: es) kws pos) (tCallG X Y n ks sp t tk) := by
  refine ⟨fun pins s σ H Q I h => wpAny_Call_Name_kw (ld_glob I hg hm ?_ hdb)⟩
  refine callWith_KA hk hall (thn (ha.run pos pins s σ H _ I h) ?_) he
  rintro us s1 ⟨vs, H1, I1, r, q⟩
  refine thn (hkw.run pos pins s1 σ H1 _ I1 q) ?_
  rintro ws s2 ⟨zs, H2, I2, rz, l1, l2, q2⟩
  rw [hks]
  exact ⟨I2.kIn, run_fnG F hgd hr (passAt tY σ) I2 (hb.to s2 us ws I2.kIn (r.length.symm.trans l1) (rz.length.symm.trans l2)) (hb.rel r rz) q2⟩
/-- o.m(e, .., k = v, ..), the class asked for its def -/
def tMethG (X : Cx) (Y : WX) (k : Nat) (m : Str) (np n : Nat) (ks : List Str) (ta : TE) (t tk : TA) : TE := fun σ H Q => ta σ H fun x H1 => ∃ a C dx fs g mf, x = .ref a ∧ H1 a = some (.ins C dx fs) ∧ fs.lookup m = none ∧ Cls X.K C ∧ Meth X.K C m g ∧ Ent X.prog X.w X.K X.mg X.base k g np (n + 1) ks mf ∧
  t σ H1 fun vs H2 => tk σ H2 fun zs H3 => vs.length = n ∧ zs.length = ks.length ∧ spM X.K np mf (x :: (vs ++ zs)) H3 Q (WE Y σ)
theorem pe_methKG {pl : Sem Bool} (he : PE X o ta) (hgd : X.A.guards = some []) (hr : Room k X.A) (tY : Takes X Y) (ha : PA X (e :: es) t) (hkw : PK X kws tk) (hall : (backToKw pos (keywordEach kws X.env)).all (·.1.isSome) = true := by rfl) (hks : (backToKw pos (keywordEach kws X.env)).filterMap (·.1) = ks := by rfl)
    (hst : starEach (e :: es) X.env = (false, eval e X.env) :: starEach es X.env := by rfl)
    (ht : eval (.Call (.Attribute o m apos) (e :: es) kws pos) X.env = (do
      let ov ← eval o X.env
      standAt apos.atName
      let (f, first) ← holding [ov] (getMethod ov m pl)
      callWith pos f first (backTo pos (starEach (e :: es) X.env)) (backToKw pos (keywordEach kws X.env))) := by rfl) :
    PE X (.Call (.Attribute o m apos) (e :: es) kws pos) (tMethG X Y k m np n ks ta t tk) := by
  refine ⟨fun pins s σ H Q I h => ?_⟩
  refine PySem.W.methodCall_KW (pl := pl) (thn (he.run pins s σ H _ I h) ?_) ht
  rintro u s1 ⟨x, H1, I1, rx, a, C, dx, fs, g, mf, ex, ea, l, c, hm, F, q⟩
  subst ex
  obtain rfl : u = Value.ref a := rx
  obtain ⟨fd, ps, hnp, G, hb⟩ := F.ex
  refine getmeth_ok I1 ea c hm l ?_
  refine callWith_KA (first := [.ref a]) hm.kp hall (thn (ha.run pos pins s1 σ H1 _ I1 q) ?_) hst
  rintro us s2 ⟨vs, H2, I2, r, q2⟩
  refine thn (hkw.run pos pins s2 σ H2 _ I2 q2) ?_
  rintro ws s3 ⟨zs, H3, I3, rz, l1, l2, q3⟩
  rw [hks]
  have ln : (Value.ref a :: us).length = n + 1 := by rw [List.length_cons, ← r.length, l1]
  have r' : Vals (V.ref a :: vs) (Value.ref a :: us) := .cons rfl r
  exact ⟨I3.kIn, run_fnG G hgd hr (passAt tY σ) I3 (hb.to s3 (Value.ref a :: us) ws I3.kIn ln (rz.length.symm.trans l2)) (hb.rel r' rz) q3⟩
end
/-! ### in short -/
/-- the classes' defs of that name: each with its class's name, and how it is called -/
structure TabOk (P : Program) (w : World) (K : PySem.W.Frag) (mg : Str → Option Value) (base : Heap) (k : Nat) (m : Str) (np n : Nat) (ks : List Str) (tab : List (Str × Fn)) : Prop where
  ok : ∀ c mf, tab.lookup c = some mf → ∃ C g, ClsAt K c C ∧ Cls K C ∧ Meth K C m g ∧ Ent P w K mg base k g np n ks mf
/-- o.m(..) -/
def methM (tab : List (Str × Fn)) (n : Nat) (m : Str) (co : M PV) (r : M (List PV)) : M PV := bnd co fun d s => match insOf s d with
  | some (c, ks, vs) => if (ks.zip vs).lookup m = none then (match tab.lookup c with
    | some f => bnd r (fun ds => runM f n (d :: ds)) s
    | none => .stk) else .stk
  | none => .stk
section
variable {Y : WX} {X : Cx} {k : Nat} {ks : List Str} {m x : Str} {np n i : Nat} {ca cb : M (List PV)} {co : M PV} {tab : List (Str × Fn)} {σ : L2.St} {H : Hp} {Q : VK} {mf : Fn}
theorem den_callK (hl : ∀ n ds st, mf n ds st ≠ .stk → ds.length = np) (h : den X.K Y (callM mf n (appA i ks.length ca cb)) σ H Q) : tCallG X Y i ks (spM X.K np mf) (denA X.K Y ca) (denA X.K Y cb) σ H Q := by
  obtain ⟨C, W, s, at', p⟩ := h
  refine den_appA at' (f := fun ds s => runM mf n ds s) p fun ds es s2 W2 H2 l2 a2 p2 us ws r1 r2 l1 l2' => ?_
  exact ⟨l1, l2', sp_run hl a2 (r1.append r2) p2⟩
theorem den_meth (T : TabOk X.prog X.w X.K X.mg X.base k m np (i + 1) ks tab) (h : den X.K Y (methM tab n m co (appA i ks.length ca cb)) σ H Q) : tMethG X Y k m np i ks (den X.K Y co) (denA X.K Y ca) (denA X.K Y cb) σ H Q := by
  obtain ⟨C, W, s, at', p⟩ := h
  refine ⟨C, W, s, at', (Pst.bnd p).imp fun d s1 W1 H1 l1 at1 p1 x rx => ?_⟩
  split at p1
  · rename_i c kk vv e
    split at p1
    · rename_i hno
      split at p1
      · rename_i mf hmf
        obtain ⟨a, Cc, dx, us, rfl, h1, h2, l, ru⟩ := insOf_rep at1 rx e
        obtain ⟨C2, g, k1, k2, k3, F⟩ := T.ok c mf hmf
        cases cls_uniq h1 k1
        refine ⟨a, _, dx, _, g, mf, rfl, h2, zip_none ru l hno, k2, k3, F, ?_⟩
        refine den_appA at1 (f := fun ds s => runM mf n (d :: ds) s) p1 fun ds es s2 W2 H2 l2 a2 p2 us ws r1 r2 l1 l2' => ?_
        exact ⟨l1, l2', sp_run F.len a2 (.cons (rx.mono l2) (r1.append r2)) p2⟩
      · exact p1.elim
    · exact p1.elim
  · exact p1.elim
end
end Dn
/-! Ob4: classes called, properties, instances called; the rules in short. -/
namespace Dn
open PySem L2 PySem.Spec PyProof.Rows
/-! ### C(e, .., k = v, ..) -/
theorem guards_under {A : Around} {C : Addr} {us : List Value} {kw : List (Str × Value)} (h : A.guards = some []) : (A.under (.builtin "type.__call__" ⟨.ref C :: us, kw⟩)).guards = some [] := by
  first | exact h | simpa [Around.under, Code.weight, Code.isCreation, Code.isGuard, Code.isCaller, Code.frames, Code.isFrame, guardIds] using h
section
variable {Y : WX} {X : Cx} {k : Nat} {f g C : Addr} {fd : FuncData} {ps ks : List Str} {sp : Sp} {x m : Str} {p pos apos : Pos} {e o : Expr} {es : List Expr} {kws : List Keyword} {ta : TE} {t tk : TA} {np n i : Nat} {mf : Fn} {ca cb : M (List PV)} {co : M PV} {σ : L2.St} {H : Hp} {Q : VK}
def tMakeG (X : Cx) (Y : WX) (C : Addr) (n : Nat) (ks : List Str) (np : Nat) (mf : Fn) (t tk : TA) : TE := fun σ H Q => t σ H fun vs H1 => tk σ H1 fun zs H2 => vs.length = n ∧ zs.length = ks.length ∧
  ∀ x dx, H2 x = none → H2 dx = none → dx ≠ x → spM X.K np mf (.ref x :: (vs ++ zs)) (upd (upd H2 dx (.own x)) x (.ins C dx [])) (fun v H3 => v = .non ∧ Q (.ref x) H3) (WE Y σ)
theorem run_makeG {pins : List (Addr × Obj)} {s : Shared} {us ws : List Value} {vs zs : List V} (M : Mk X.K C f) (F : Ent X.prog X.w X.K X.mg X.base k f np (n + 1) ks mf) (hgd : X.A.guards = some []) (hr : Room (k + 1) X.A) (tY : Takes X Y)
    (I : Inv X pins σ H s) (r : Vals vs us) (rz : Vals zs ws) (l1 : vs.length = n) (l2 : zs.length = ks.length)
    (h : ∀ x dx, H x = none → H dx = none → dx ≠ x → spM X.K np mf (.ref x :: (vs ++ zs)) (upd (upd H dx (.own x)) x (.ins C dx [])) (fun v H3 => v = .non ∧ Q (.ref x) H3) (WE Y σ)) :
    wpAny (model X.prog X.w) X.A (call (.ref C) us (ks.zip ws)) (EP X pins σ Q) X.xe s := by
  obtain ⟨fd, ps, hnp, G, hb⟩ := F.ex
  have n0 : H s.heap.objs.size = none := I.hok.fresh (Nat.le_refl _)
  have n1 : H (s.heap.objs.size + 1) = none := I.hok.fresh (Nat.le_succ _)
  have want := h (s.heap.objs.size + 1) s.heap.objs.size n1 n0 (Nat.ne_of_lt (Nat.lt_succ_self _))
  have J := Inv.made (C := C) I
  have rS : Vals (V.ref (s.heap.objs.size + 1) :: vs) (Value.ref (s.heap.objs.size + 1) :: us) := .cons rfl r
  have ln : (Value.ref (s.heap.objs.size + 1) :: us).length = n + 1 := by rw [List.length_cons, ← r.length, l1]
  have bd := hb.to _ (Value.ref (s.heap.objs.size + 1) :: us) ws J.kIn ln (rz.length.symm.trans l2)
  have go := G.run _ X.stack _ _ ⟨Value.ref (s.heap.objs.size + 1) :: us, ks.zip ws⟩ _ _ _ _ (guards_under hgd) (hr.make C us (ks.zip ws)) (J.env0.make C us (ks.zip ws)) bd (hb.rel rS rz) want
  refine wpAny_call (make_map (f := f) I.kIn M.makes M.init (beq_iff_eq.mp M.fn) ?_)
  refine codeAny_mono go fun res s' hq => ?_
  match res, hq with
  | .error e, hq => exact passAt tY σ pins _ _ e s' J hq
  | .ok (.ret u), hq =>
    obtain ⟨v, H', J', rv, ev, q'⟩ := J.after hq
    subst ev
    exact ⟨rv, V.ref (s.heap.objs.size + 1), H', J', rfl, q'⟩
  | .ok .next, hq => exact False.elim hq
  | .ok .brk, hq => exact False.elim hq
  | .ok .cont, hq => exact False.elim hq
theorem pe_makeG (M : Mk X.K C f) (F : Ent X.prog X.w X.K X.mg X.base k f np (n + 1) ks mf) (hgd : X.A.guards = some []) (hr : Room (k + 1) X.A) (tY : Takes X Y) (hg : Gl X x) (hm : X.mg x = some (.ref C)) (ha : PA X (e :: es) t) (hkw : PK X kws tk)
    (hall : (backToKw pos (keywordEach kws X.env)).all (·.1.isSome) = true := by rfl) (hks : (backToKw pos (keywordEach kws X.env)).filterMap (·.1) = ks := by rfl) (hdb : (x == ("__debug__" : Str)) = false := by decide)
    (he : starEach (e :: es) X.env = (false, eval e X.env) :: starEach es X.env := by rfl) :
    PE X (.Call (.Name x p) (e :: es) kws pos) (tMakeG X Y C n ks np mf t tk) := by
  refine ⟨fun pins s σ H Q I h => wpAny_Call_Name_kw (ld_glob I hg hm ?_ hdb)⟩
  refine callWith_KA M.kp hall (thn (ha.run pos pins s σ H _ I h) ?_) he
  rintro us s1 ⟨vs, H1, I1, r, q⟩
  refine thn (hkw.run pos pins s1 σ H1 _ I1 q) ?_
  rintro ws s2 ⟨zs, H2, I2, rz, l1, l2, q2⟩
  rw [hks]
  exact ⟨I2.kIn, run_makeG M F hgd hr tY I2 r rz l1 l2 q2⟩
end
/-- a class called: the def __init__ on a new instance, which is a value behind it -/
def makeM (c : Str) (mf : Fn) (n : Nat) (r : M (List PV)) : M PV := bnd r fun ds s => match mf n (.hnd s.sto.length :: ds) (s.sto ++ [.ins c [] [], .own s.sto.length]) with
  | .ok .non st' => (match st'[s.sto.length]?, st'[s.sto.length + 1]? with
    | some (.ins c' ks vs), some (.own j) => if j = s.sto.length then .ok (.obj c' ks vs) { s with sto := (st'.set s.sto.length .gone).set (s.sto.length + 1) .gone } else .stk
    | _, _ => .stk)
  | .exc e st' => .exc e { s with sto := st' }
  | _ => .stk
theorem At.hs_le {K : PySem.W.Frag} {C : Ctx} {W : Vw} {s : S} {σ : L2.St} {H : Hp} (h : At K C W s σ H) : C.hs0.length ≤ W.hs.length := by
  rcases Nat.lt_or_ge W.hs.length C.hs0.length with z | z
  · have := h.pre W.hs.length _ (List.getElem?_eq_getElem z)
    rw [List.getElem?_eq_none (Nat.le_refl _)] at this
    cases this
  · exact z
theorem den_make {X : Cx} {Y : WX} {Cc : Addr} {c : Str} {i np n : Nat} {ks : List Str} {mf : Fn} {ca cb : M (List PV)} {σ : L2.St} {H : Hp} {Q : VK} (hc : ClsAt X.K c Cc) (hl : ∀ n ds st, mf n ds st ≠ .stk → ds.length = np)
    (h : den X.K Y (makeM c mf n (appA i ks.length ca cb)) σ H Q) : tMakeG X Y Cc i ks np mf (denA X.K Y ca) (denA X.K Y cb) σ H Q := by
  obtain ⟨C, W, s, at', p⟩ := h
  refine den_appA at' p fun ds es s2 W2 H2 l2 a2 p2 us ws r1 r2 l1 l2' => ⟨l1, l2', fun x dx hx hd ne => ?_⟩
  obtain ⟨le, a3, rx⟩ := a2.newI hx hd ne hc
  have hlen : s2.sto.length = W2.hs.length := a2.ok.len
  have hkx : (W2.hs ++ [x, dx])[s2.sto.length]? = some x := by rw [hlen]; exact two_0
  have rep : Reps X.K ⟨W2.F, W2.hs ++ [x, dx]⟩ (.ref x :: (us ++ ws)) (.hnd s2.sto.length :: (ds ++ es)) := .cons rx ((r1.append r2).mono le)
  have len : ∀ {z : RR}, mf n (.hnd s2.sto.length :: (ds ++ es)) (s2.sto ++ [.ins c [] [], .own s2.sto.length]) = z → z ≠ .stk → (V.ref x :: (us ++ ws)).length = np := fun {z} e q => by rw [rep.length]; exact hl _ _ _ (by rw [e]; exact q)
  cases e : mf n (.hnd s2.sto.length :: (ds ++ es)) (s2.sto ++ [.ins c [] [], .own s2.sto.length]) with
  | stk => simp only [e] at p2; exact p2.elim
  | exc z st' =>
    simp only [e] at p2
    refine ⟨len e (fun z => nomatch z), n, _, _, _, a3.ok, rep, ?_⟩
    rw [e]
    exact fun W' H' cls d l ok g r => p2 W' σ H' cls d (le.trans l) (a3.call l ok g) r
  | ok d st' =>
    simp only [e] at p2
    cases d <;> try exact p2.elim
    refine ⟨len e (fun z => nomatch z), n, _, _, _, a3.ok, rep, ?_⟩
    rw [e]
    intro v W' H' l ok g rv
    cases rv
    refine ⟨rfl, ?_⟩
    have a4 := a3.call l ok g
    have hx' : W'.hs[s2.sto.length]? = some x := l.pre _ _ hkx
    dsimp only at p2
    split at p2
    · rename_i c' ks' vs' j e1 e2
      split at p2
      · rename_i hj
        subst hj
        obtain ⟨W5, l5, a5, r5⟩ := a4.done (by rw [hlen]; exact a2.hs_le) hx' e1 e2
        exact p2 W5 H' (le.trans (l.trans l5)) a5 _ r5
      · exact p2.elim
    · exact p2.elim
/-! ### properties -/
structure PropE (P : Program) (w : World) (K : PySem.W.Frag) (mg : Str → Option Value) (base : Heap) (k : Nat) (f : Str) (C : Addr) (mf : Fn) : Prop where
  ex : ∃ p g, PropOf K C f p g ∧ Ent P w K mg base k g 1 1 [] mf
def tPropG (X : Cx) (k : Nat) (f : Str) (ta : TE) : TE := fun σ H Q => ta σ H fun x H1 => ∃ a C dx fs mf, x = .ref a ∧ H1 a = some (.ins C dx fs) ∧ Cls X.K C ∧ PropE X.prog X.w X.K X.mg X.base k f C mf ∧ spM X.K 1 mf [.ref a] H1 Q (fun _ _ _ => False)
theorem pe_propG {X : Cx} {k : Nat} {f : Str} {e : Expr} {pos : Pos} {ta : TE} (he : PE X e ta) (hgd : X.A.guards = some []) (hr : Room (k + 1) X.A) (hab : attributeBase e f X.env (eval e X.env) = eval e X.env := by rfl) : PE X (.Attribute e f pos) (tPropG X k f ta) := by
  refine ⟨fun pins s σ H Q I h => attr_of hab (thn (he.run pins s σ H _ I h) ?_)⟩
  rintro u s1 ⟨x, H1, I1, rx, a, C, dx, fs, mf, ex, ea, c, P, q⟩
  subst ex
  obtain rfl : u = Value.ref a := rx
  obtain ⟨p, g, hp, F⟩ := P.ex
  obtain ⟨fd, ps, hnp, G, hb⟩ := F.ex
  obtain ⟨mA, O, _⟩ := ins_get I1.hok ea
  obtain ⟨od, J, _⟩ := O.look
  obtain ⟨rest, hrec⟩ := hp.rec_
  have I2 := I1.tok (s1.toks + 1)
  have hc : (PySem.W.clsIn X.K C).isSome = true := by
    obtain ⟨cd, hc, _⟩ := PySem.W.any_some c.hd
    rw [hc]
    rfl
  have bd := hb.to { s1 with toks := s1.toks + 1 } [.ref a] [] I2.kIn rfl rfl
  have go := G.run X.A.in1 X.stack { s1 with toks := s1.toks + 1 } H1 _ _ _ Q (fun _ _ _ => False) hgd hr.in1 I2.env0.in1 bd (hb.rel (vs := [V.ref a]) (zs := []) (.cons rfl .nil) .nil) q
  have gp := PySem.W.plainGet_of (c.get f)
  refine PySem.W.get_bind I1.kIn J gp.1 (PySem.W.findObj_data hc hp.at_ hp.get hp.tak) gp.2 (wpAny_call (PySem.W.prop_get (s := { s1 with toks := s1.toks + 1 }) I1.kIn hrec (codeAny_mono go fun res s' hq => ?_)))
  match res, hq with
  | .error er, hq =>
    obtain ⟨_, _, _, _, _, _, _, _, _, _, _, _, w⟩ := hq
    exact w.elim
  | .ok (.ret u), hq =>
    obtain ⟨v, H', I3, rv, q3⟩ := I2.after hq
    show wpAny _ _ (handedOut u) _ _ _
    rw [PySem.W.handedOut_of (handed_of rv)]
    exact wpAny_pure ⟨v, H', I3, rv, q3⟩
  | .ok .next, hq => exact False.elim hq
  | .ok .brk, hq => exact False.elim hq
  | .ok .cont, hq => exact False.elim hq
structure PropTab (P : Program) (w : World) (K : PySem.W.Frag) (mg : Str → Option Value) (base : Heap) (k : Nat) (f : Str) (tab : List (Str × Fn)) : Prop where
  ok : ∀ c mf, tab.lookup c = some mf → ∃ C, ClsAt K c C ∧ Cls K C ∧ PropE P w K mg base k f C mf
/-- e.f, a property: it lets nothing out -/
def propM (tab : List (Str × Fn)) (n : Nat) (d : PV) : M PV := fun s => match insOf s d with
  | some (c, _, _) => (match tab.lookup c with
    | some f => (match f n [d] s.sto with
      | .ok r st' => .ok r { s with sto := st' }
      | _ => .stk)
    | none => .stk)
  | none => .stk
theorem den_prop {X : Cx} {Y : WX} {k : Nat} {f : Str} {tab : List (Str × Fn)} {n : Nat} {co : M PV} {σ : L2.St} {H : Hp} {Q : VK} (T : PropTab X.prog X.w X.K X.mg X.base k f tab) (h : den X.K Y (bnd co (propM tab n)) σ H Q) : tPropG X k f (den X.K Y co) σ H Q := by
  obtain ⟨C, W, s, at', p⟩ := h
  refine ⟨C, W, s, at', (Pst.bnd p).imp fun d s1 W1 H1 l1 at1 p1 x rx => ?_⟩
  unfold propM at p1
  split at p1
  · rename_i c kk vv e
    split at p1
    · rename_i mf hmf
      obtain ⟨a, Cc, dx, us, rfl, h1, h2, l, ru⟩ := insOf_rep at1 rx e
      obtain ⟨C2, k1, k2, P⟩ := T.ok c mf hmf
      cases cls_uniq h1 k1
      split at p1
      · rename_i r st' er
        refine ⟨a, _, dx, _, mf, rfl, h2, k2, P, rfl, n, W1, s1.sto, [d], at1.ok, .cons rx .nil, ?_⟩
        rw [er]
        exact fun v W' H' l ok g rv => p1 W' H' l (at1.call l ok g) v rv
      · exact p1.elim
    · exact p1.elim
  · exact p1.elim
end Dn
/-! Ob5: the rules of Ob3, Ob4 in short; keywords; stars; types; chains. -/
namespace Dn
open PySem L2 PySem.Spec PyProof.Rows
theorem FnG.up {P : Program} {w : World} {K : PySem.W.Frag} {mg : Str → Option Value} {base : Heap} {j k : Nat} {g : Addr} {np n : Nat} {ks : List Str} {m : Fn} (F : Ent P w K mg base j g np n ks m) (h : j ≤ k) : Ent P w K mg base k g np n ks m := by
  obtain ⟨fd, ps, e, G, b⟩ := F.ex
  exact ⟨⟨fd, ps, e, G.mono h, b⟩, F.len⟩
/-- a def called by name with keywords -/
structure DfK (P : Program) (w : World) (K : PySem.W.Frag) (mg : Str → Option Value) (base : Heap) (k : Nat) (x : Str) (np n : Nat) (ks : List Str) (m : Fn) : Prop where
  ex : ∃ f, mg x = some (.ref f) ∧ PySem.W.keepIn K (.ref f) = true ∧ Ent P w K mg base k f np n ks m
/-- a class called -/
structure MkK (P : Program) (w : World) (K : PySem.W.Frag) (mg : Str → Option Value) (base : Heap) (k : Nat) (c : Str) (np n : Nat) (ks : List Str) (m : Fn) : Prop where
  ex : ∃ C f, ClsAt K c C ∧ mg c = some (.ref C) ∧ Mk K C f ∧ Ent P w K mg base k f np (n + 1) ks m
section
variable {Y : WX} {X : Cx} {k j : Nat} {ks : List Str} {x m c : Str} {p pos apos kp : Pos} {e o : Expr} {es : List Expr} {kws : List Keyword} {np n i : Nat} {mf : Fn} {ca cb : M (List PV)} {co ce : M PV} {tab : List (Str × Fn)}
theorem akN : PK X [] (denA X.K Y argN) := ⟨fun pos pins s σ H Q I h => pk_nil.run pos pins s σ H Q I (den_argN h)⟩
theorem akC {nm : Option Str} (he : PE X e (den X.K Y ce)) (hr : PK X kws (denA X.K Y cb)) : PK X (⟨nm, e, kp⟩ :: kws) (denA X.K Y (argC ce cb)) := ⟨fun pos pins s σ H Q I h => (pk_cons he hr).run pos pins s σ H Q I (den_argC h)⟩
theorem xcallK (n : Nat) (D : DfK X.prog X.w X.K X.mg X.base j x np i ks mf) (hgd : X.A.guards = some []) (hr : Room k X.A) (tY : Takes X Y) (hjk : j ≤ k) (ha : PA X (e :: es) (denA X.K Y ca)) (hkw : PK X kws (denA X.K Y cb)) (hg : Gl X x := by rfl) (hall : (backToKw pos (keywordEach kws X.env)).all (·.1.isSome) = true := by rfl) (hks : (backToKw pos (keywordEach kws X.env)).filterMap (·.1) = ks := by rfl)
    (hdb : (x == ("__debug__" : Str)) = false := by decide) (he : starEach (e :: es) X.env = (false, eval e X.env) :: starEach es X.env := by rfl) : PE X (.Call (.Name x p) (e :: es) kws pos) (den X.K Y (callM mf n (appA i ks.length ca cb))) := by
  obtain ⟨f, hm, hk, F⟩ := D.ex
  obtain ⟨fd, ps, _, G, b⟩ := F.ex
  exact pe_imp (pe_callKG G hgd (hr.mono hjk) tY hg hm hk b ha hkw hall hks hdb he) fun _ _ _ => den_callK F.len
theorem xmake (n : Nat) (D : MkK X.prog X.w X.K X.mg X.base j c np i ks mf) (hgd : X.A.guards = some []) (hr : Room k X.A) (tY : Takes X Y) (hjk : j + 1 ≤ k) (ha : PA X (e :: es) (denA X.K Y ca)) (hkw : PK X kws (denA X.K Y cb)) (hg : Gl X c := by rfl) (hall : (backToKw pos (keywordEach kws X.env)).all (·.1.isSome) = true := by rfl) (hks : (backToKw pos (keywordEach kws X.env)).filterMap (·.1) = ks := by rfl)
    (hdb : (c == ("__debug__" : Str)) = false := by decide) (he : starEach (e :: es) X.env = (false, eval e X.env) :: starEach es X.env := by rfl) : PE X (.Call (.Name c p) (e :: es) kws pos) (den X.K Y (makeM c mf n (appA i ks.length ca cb))) := by
  obtain ⟨C, f, hc, hm, M, F⟩ := D.ex
  exact pe_imp (pe_makeG M F hgd (hr.mono hjk) tY hg hm ha hkw hall hks hdb he) fun _ _ _ => den_make hc F.len
theorem xmeth {pl : Sem Bool} (n : Nat) (T : TabOk X.prog X.w X.K X.mg X.base j m np (i + 1) ks tab) (hgd : X.A.guards = some []) (hr : Room k X.A) (tY : Takes X Y) (hjk : j ≤ k) (ho : PE X o (den X.K Y co)) (ha : PA X (e :: es) (denA X.K Y ca)) (hkw : PK X kws (denA X.K Y cb)) (hall : (backToKw pos (keywordEach kws X.env)).all (·.1.isSome) = true := by rfl) (hks : (backToKw pos (keywordEach kws X.env)).filterMap (·.1) = ks := by rfl)
    (hst : starEach (e :: es) X.env = (false, eval e X.env) :: starEach es X.env := by rfl)
    (ht : eval (.Call (.Attribute o m apos) (e :: es) kws pos) X.env = (do
      let ov ← eval o X.env
      standAt apos.atName
      let (f, first) ← holding [ov] (getMethod ov m pl)
      callWith pos f first (backTo pos (starEach (e :: es) X.env)) (backToKw pos (keywordEach kws X.env))) := by rfl) :
    PE X (.Call (.Attribute o m apos) (e :: es) kws pos) (den X.K Y (methM tab n m co (appA i ks.length ca cb))) := pe_imp (pe_methKG ho hgd (hr.mono hjk) tY ha hkw hall hks hst ht) fun _ _ _ => den_meth T
theorem xprop (n : Nat) (T : PropTab X.prog X.w X.K X.mg X.base j m tab) (hgd : X.A.guards = some []) (hr : Room k X.A) (hjk : j + 1 ≤ k) (he : PE X e (den X.K Y ce)) (hab : attributeBase e m X.env (eval e X.env) = eval e X.env := by rfl) : PE X (.Attribute e m pos) (den X.K Y (bnd ce (propM tab n))) := pe_imp (pe_propG he hgd (hr.mono hjk) hab) fun _ _ _ => den_prop T
end
end Dn
/-! Ob6: stars, types, chains, a module's constants. -/
namespace Dn
open PySem L2 StX PySem.Spec PyProof.Rows
section
variable {Y : WX} {K : PySem.W.Frag} {C : Ctx} {W W' : Vw} {σ : L2.St} {H : Hp} {s : S} {Q : VK} {ca cb cc : M PV} {cr : M (List PV)}
/-- min, max of two ints -/
def maxP : PV → PV → Option PV
  | .int i, .int j => some (.int (if j > i then j else i))
  | _, _ => none
def minP : PV → PV → Option PV
  | .int i, .int j => some (.int (if j < i then j else i))
  | _, _ => none
abbrev opMax (a b : PV) : M PV := lft (maxP a b)
abbrev opMin (a b : PV) : M PV := lft (minP a b)
theorem bin_max : Bin (fun x y H Q => ∃ i j, [x, y] = [.int i, .int j] ∧ Q (.int (if j > i then j else i)) H) K opMax := by
  intro C W s σ H v w a b Q at' ra rb p
  obtain ⟨d, e, q⟩ := p.lft'
  have q0 := q W H (Vw.Le.refl W) at'
  unfold maxP at e
  split at e
  · cases e
    cases ra.int
    cases rb.int
    exact ⟨_, _, rfl, q0 _ (.int _)⟩
  · cases e
theorem bin_min : Bin (fun x y H Q => ∃ i j, [x, y] = [.int i, .int j] ∧ Q (.int (if j < i then j else i)) H) K opMin := by
  intro C W s σ H v w a b Q at' ra rb p
  obtain ⟨d, e, q⟩ := p.lft'
  have q0 := q W H (Vw.Le.refl W) at'
  unfold minP at e
  split at e
  · cases e
    cases ra.int
    cases rb.int
    exact ⟨_, _, rfl, q0 _ (.int _)⟩
  · cases e
/-- a <= b <= c -/
def chainM (f g : PV → PV → M PV) (ca cb cc : M PV) : M PV := bnd ca fun a => bnd cb fun b => bnd (f a b) fun d => match d with
  | .bl true => bnd cc fun c => g b c
  | .bl false => ret (.bl false)
  | _ => stuck
theorem den_chain {f g : PV → PV → M PV} {r r' : V → V → Hp → VK → Prop} (hf : Bin r K f) (hg : Bin r' K g) (h : den K Y (chainM f g ca cb cc) σ H Q) : tChain r r' (den K Y ca) (den K Y cb) (den K Y cc) σ H Q := by
  obtain ⟨C, W, s, at', p⟩ := h
  refine ⟨C, W, s, at', (Pst.bnd p).imp fun a s1 W1 H1 l1 at1 p1 v rv => ⟨C, W1, s1, at1, (Pst.bnd p1).imp fun b s2 W2 H2 l2 at2 p2 w rw' => ?_⟩⟩
  refine hf _ W2 s2 σ H2 v w a b _ at2 (.rep (rv.mono l2)) (.rep rw') ((Pst.bnd p2).imp fun d s3 W3 H3 l3 at3 p3 z rz => ?_)
  cases d <;> try exact p3.elim
  rename_i bb
  cases rz
  refine ⟨bb, rfl, ?_⟩
  cases bb with
  | true =>
    rw [if_pos rfl]
    exact ⟨C, W3, s3, at3, (Pst.bnd p3).imp fun c s4 W4 H4 l4 at4 p4 y ry => hg _ W4 s4 σ H4 w y b c _ at4 (.rep (rw'.mono (l3.trans l4))) (.rep ry) p4⟩
  | false =>
    rw [if_neg (fun z => nomatch z)]
    exact p3 W3 H3 (Vw.Le.refl _) at3 _ (.bl false)
/-- the name of a value's built-in type -/
def tyP : PV → Option String
  | .non => some "NoneType"
  | .bl _ => some "bool"
  | .int _ => some "int"
  | .str _ => some "str"
  | .tup _ => some "tuple"
  | .lst _ => some "list"
  | .scr _ => some "list"
  | .dic _ => some "dict"
  | .dct _ _ => some "dict"
  | _ => none
def isiP (nm : String) (d : PV) : Option PV := (tyP d).bind fun t => (kitB t nm).map PV.bl
abbrev fIsi (nm : String) (d : PV) : M PV := lft (isiP nm d)
theorem ty_rep {d : PV} {v : V} {t : String} (a : At K C W s σ H) (r : Rep K W v d) (e : tyP d = some t) : TyX K H v (.type t) := by
  cases r with
  | non => cases e; exact .base .non
  | bl b => cases e; exact .base (.bl b)
  | int i => cases e; exact .base (.int i)
  | str x => cases e; exact .base (.str x)
  | tup hq _ =>
    cases e
    rcases same_t a.ok.sub hq with (h | ⟨o, h⟩) | ⟨o, its, n, h1, h2, h3, _⟩
    · exact .base (.tup h)
    · exact .fTuple h
    · exact .kTuple h1 h2
  | lst hq _ => cases e; exact .base (.lst (a.ok.sub _ _ hq))
  | scr hq =>
    cases e
    rcases a.ok.sub.seq hq with (h | ⟨o, h⟩) | ⟨o, its, n, h1, h2, _⟩
    · exact .base (.lst h)
    · exact .base (.frz h)
    · exact .kList h1 h2
  | hnd _ =>
    have e : (none : Option String) = some t := e
    cases e
  | obj =>
    have e : (none : Option String) = some t := e
    cases e
  | fn =>
    have e : (none : Option String) = some t := e
    cases e
  | exn =>
    have e : (none : Option String) = some t := e
    cases e
  | dic h => cases e; exact .base (.dK (a.ok.sub _ _ h))
  | dct h => cases e; exact .fDict (a.ok.sub _ _ h)
  | kt _ =>
    have e : (none : Option String) = some t := e
    cases e
theorem den_isi {nm : String} (h : den K Y (bnd ca (fIsi nm)) σ H Q) : tCB (rIsi K) (tCons (den K Y ca) (tCons (tC (.ty nm)) tNil)) σ H Q := by
  obtain ⟨C, W, s, at', p⟩ := h
  refine ⟨C, W, s, at', (Pst.bnd p).imp fun d s1 W1 H1 l1 at1 p1 v rv => ?_⟩
  obtain ⟨z, e, q⟩ := p1.lft'
  have q0 := q W1 H1 (Vw.Le.refl W1) at1
  unfold isiP at e
  obtain ⟨t, e1, e2⟩ := Option.bind_eq_some_iff.mp e
  obtain ⟨b, e3, e4⟩ := Option.map_eq_some_iff.mp e2
  subst e4
  exact ⟨v, .ty nm, .type t, .type nm, b, rfl, .ty nm, ty_rep at1 rv e1, kit_ty e3, q0 _ (.bl b)⟩
end
section
variable {Y : WX} {X : Cx} {a b c e : Expr} {es : List Expr} {ca cb cc : M PV} {cr : M (List PV)} {pos p px : Pos}
theorem xmax2 (hc : X.calm = true) (hm : X.mg "max" = none) (ha : PE X a (den X.K Y ca)) (hb : PE X b (den X.K Y cb)) (hg : Gl X "max" := by rfl) (h1 : starEach [a, b] X.env = (false, eval a X.env) :: starEach [b] X.env := by rfl) (h2 : starEach [b] X.env = (false, eval b X.env) :: starEach [] X.env := by rfl) (hpl : (backTo pos (starEach [b] X.env)).any (·.1) = false := by rfl) :
    PE X (.Call (.Name "max" px) [a, b] [] pos) (den X.K Y (bin ca cb opMax)) := pe_imp (pe_callB (call_max2 hc) hg hm PyProof.Rows.Boot.«max» (pa_cons ha (pa_cons hb pa_nil h2) h1) (by decide) (by decide) h1 hpl) fun _ _ _ h => den_bin bin_max h
theorem xmin2 (hc : X.calm = true) (hm : X.mg "min" = none) (ha : PE X a (den X.K Y ca)) (hb : PE X b (den X.K Y cb)) (hg : Gl X "min" := by rfl) (h1 : starEach [a, b] X.env = (false, eval a X.env) :: starEach [b] X.env := by rfl) (h2 : starEach [b] X.env = (false, eval b X.env) :: starEach [] X.env := by rfl) (hpl : (backTo pos (starEach [b] X.env)).any (·.1) = false := by rfl) :
    PE X (.Call (.Name "min" px) [a, b] [] pos) (den X.K Y (bin ca cb opMin)) := pe_imp (pe_callB (call_min2 hc) hg hm PyProof.Rows.Boot.«min» (pa_cons ha (pa_cons hb pa_nil h2) h1) (by decide) (by decide) h1 hpl) fun _ _ _ h => den_bin bin_min h
theorem xchain {op op' : CmpOp} {f g : PV → PV → M PV} (hf : CmpOk X op f) (hg : CmpOk X op' g) (ha : PE X a (den X.K Y ca)) (hb : PE X b (den X.K Y cb)) (hc : PE X c (den X.K Y cc)) (hm : lastMarks [op, op'] [b, c] = false := by with_unfolding_all rfl) : PE X (.Compare a [op, op'] [b, c] pos) (den X.K Y (chainM f g ca cb cc)) := by
  obtain ⟨r, h1, h2⟩ := hf.ok
  obtain ⟨r', h3, h4⟩ := hg.ok
  exact pe_imp (pe_chain h1 h3 ha hb hc hm) fun _ _ _ => den_chain h2 h4
theorem xisi {x : Str} {nm : String} (hm : X.mg "isinstance" = none) (hx : X.mg x = none) (hv : bootBuiltins x = some (.type nm)) (ha : PE X a (den X.K Y ca)) (hn : x ≠ "__name__" := by decide) (hd : (x == ("__debug__" : Str)) = false := by decide) (hg : Gl X "isinstance" := by rfl) (hgx : Gl X x := by rfl)
    (h1 : starEach [a, .Name x p] X.env = (false, eval a X.env) :: starEach [.Name x p] X.env := by rfl) (h2 : starEach [.Name x p] X.env = (false, eval (.Name x p) X.env) :: starEach [] X.env := by rfl) (hpl : (backTo pos (starEach [.Name x p] X.env)).any (·.1) = false := by rfl) :
    PE X (.Call (.Name "isinstance" px) [a, .Name x p] [] pos) (den X.K Y (bnd ca (fIsi nm))) := pe_imp (pe_callB call_isi hg hm PyProof.Rows.Boot.«isinstance» (pa_cons ha (pa_cons (pe_bltn hgx hx hv (show RelV (.ty nm) (.type nm) from rfl) hn hd) pa_nil h2) h1) (by decide) (by decide) h1 hpl) fun _ _ _ => den_isi
/-- a module's constant: an int, a text -/
theorem xgI {x : Str} {i : Int} {t : Tok} (hm : X.mg x = some (.int i t)) (hg : Gl X x := by rfl) (hd : (x == ("__debug__" : Str)) = false := by decide) : PE X (.Name x pos) (den X.K Y (ret (.int i))) := pe_imp (pe_glob hg hm (show RelV (.int i) (.int i t) from ⟨t, rfl⟩) hd) fun σ H Q h => by
  obtain ⟨C, W, s, at', p⟩ := h
  exact p W H (Vw.Le.refl _) at' _ (.int i)
theorem xgS {x y : Str} {t : Tok} (hm : X.mg x = some (.str y t)) (hg : Gl X x := by rfl) (hd : (x == ("__debug__" : Str)) = false := by decide) : PE X (.Name x pos) (den X.K Y (ret (.str y))) := pe_imp (pe_glob hg hm (show RelV (.str y) (.str y t) from ⟨t, rfl⟩) hd) fun σ H Q h => by
  obtain ⟨C, W, s, at', p⟩ := h
  exact p W H (Vw.Le.refl _) at' _ (.str y)
end
end Dn
/-! Ob7: super(): defs of a class that ask the class above, in their first statement. -/
namespace Dn
open PySem L2 ClX PySem.Spec PyProof.Rows
theorem run_codeG {X : Cx} {CX : CXT} {k : Nat} {f : Addr} {fd : FuncData} {ps : List Str} {sp : Sp} {E : XK} {pins : List (Addr × Obj)} {σ : L2.St} {H : Hp} {s : Shared} {Q : VK} {us zs : List Value} {kw : List (Str × Value)} {vs : List V} (F : FnG X.prog X.w X.K X.mg X.base CX k f fd ps sp) (hgd : X.A.guards = some []) (hr : Room k X.A) (hx : PassesAt CX X σ E)
    (I : Inv X pins σ H s) (hb : BindsTo s fd ⟨us, kw⟩ (ps.zip zs)) (r : Vals vs zs) (h : sp vs H Q E) : codeAny (model X.prog X.w) X.A (.call (.ref f) ⟨us, kw⟩) (fun r s' => match r with
      | .ok (.ret v) => EP X pins σ Q v s'
      | .ok _ => False
      | .error e => X.xe e s') s := by
  refine codeAny_mono (F.run X.A X.stack s H ⟨us, kw⟩ zs vs Q E hgd hr I.env0 hb r h) fun res s' hq => ?_
  match res, hq with
  | .error e, hq => exact hx pins H s e s' I hq
  | .ok (.ret u), hq => exact I.after hq
  | .ok .next, hq => exact False.elim hq
  | .ok .brk, hq => exact False.elim hq
  | .ok .cont, hq => exact False.elim hq
/-- where super() stands: the def at f of the class at D, self its first parameter -/
structure SupX (X : Cx) (slf : Str) (D : Addr) : Prop where
  ks : X.env.kindOf "super" = some .globalImplicit
  kc : X.env.kindOf "__class__" = some .free
  sl : X.env.kindOf slf = some .local
  n0 : X.N[0]? = some slf
  sup : X.mg "super" = none
  fn : ∃ (f : Addr) (oc : Value) (od : Option Addr) (fd : FuncData) (osl : Array (Option Value)) (ar : Arg), X.env.func = some f ∧ X.K.lookup f = some ⟨oc, od, .func fd, osl⟩ ∧ (fd.params.posonlyargs ++ fd.params.args).head? = some ar ∧ ar.arg = slf
  code : ∃ (cda : Addr) (oc : Value) (od : Option Addr) (vs : Array Value) (osl : Array (Option Value)) (file : Str) (tf : Tok), X.env.code = .ref cda ∧ X.K.lookup cda = some ⟨oc, od, .fields vs, osl⟩ ∧ vs[2]? = some (.str file tf) ∧ ((X.prog.main.file : Str) == file) = true
  top : (X.prog.main.scope.names.lookup ("super" : Str)).isSome = false
  cell : ∃ (cc : Addr) (oc : Value) (od : Option Addr) (osl : Array (Option Value)), X.env.cells.lookup ("__class__" : Str) = some cc ∧ X.K.lookup cc = some ⟨oc, od, .cell (some (.ref D)), osl⟩
  cls : ∃ cd, PySem.W.clsIn X.K D = some cd
/-- what an instance's class must have: above the class at D, the name is the def at g -/
structure SupC (K : PySem.W.Frag) (C D : Addr) (m : Str) (g : Addr) : Prop where
  sub : PySem.W.mroIn K C (.ref D) = some true
  at_ : PySem.W.ks_superIn K C D m = some (some (.ref g))
  ty : PySem.W.typeIn K (.ref g) = some (.type "function")
  fi : PySem.W.fnIn K g = true
  opq : PySem.W.nsIn K cStatics "thirdparty.any" = some none
section
variable {Y : WX} {X : Cx} {k np n : Nat} {ks : List Str} {slf m : Str} {D : Addr} {body : List Stmt} {p0 p1 apos pos : Pos} {e : Expr} {es : List Expr} {kws : List Keyword} {t tk : TA} {pins : List (Addr × Obj)} {σ : L2.St} {H : Hp} {s : Shared} {Q : VK}
/-- the object that super() gives, then its method: a bound one, pinned -/
theorem sup_base {a C dx : Addr} {fs : List (Str × V)} {whole : Sem Value} {R : Value → Shared → Prop} (S : SupX X slf D) (I : Inv X pins σ H s) (h0 : σ[0]? = some (some (.ref a))) (ha : H a = some (.ins C dx fs)) (hsub : PySem.W.mroIn X.K C (.ref D) = some true) (hm : (m == ("__class__" : Str)) = false)
    (h : ∀ so h', (∀ b o, s.heap.get? b = some o → h'.get? b = some o) → h'.get? so = some (PySem.W.ks_superObj D a C) → R (.ref so) { s with heap := h' }) :
    _root_.PySem.wpAt (model X.prog X.w) X.A (.func body X.env) (attributeBase (.Call (.Name "super" p0) [] [] p1) m X.env whole) R X.xe s := by
  obtain ⟨f, oc, od, fd, osl, ar, e1, e2, e3, e4⟩ := S.fn
  obtain ⟨cda, occ, odc, vs, oslc, file, tf, c1, c2, c3, c4⟩ := S.code
  obtain ⟨cc, oce, ode, osle, d1, d2⟩ := S.cell
  obtain ⟨cd, hD⟩ := S.cls
  have KX := I.kIn
  obtain ⟨oD, hD1, hD2⟩ : ∃ oD, s.heap.get? D = some oD ∧ oD.data = .cls cd := by
    unfold PySem.W.clsIn at hD
    split at hD
    · rename_i q1 q2 q3 q4 ho
      cases hD
      exact ⟨_, KX _ _ ho, rfl⟩
    · cases hD
  obtain ⟨mA, O, _⟩ := ins_get I.hok ha
  obtain ⟨oi, J, _⟩ := O.look
  obtain ⟨ml, hn, hlk⟩ := id I.loc
  obtain ⟨u, ru, hu⟩ := hlk 0 slf _ S.n0 h0 (.inl S.sl)
  obtain rfl : u = Value.ref a := ru
  have hv : ml slf = some (.ref a) := by
    rcases hu with ⟨_, hu⟩ | ⟨z, _⟩
    · exact hu
    · rw [S.sl] at z
      rcases z with z | z <;> cases z
  obtain ⟨mb, b1, b2⟩ := I.mod.blt
  refine PySem.ks_wpAt_super_base (env := X.env) S.ks S.kc hm e1 (KX _ _ e2) rfl e3 c1 (KX _ _ c2) rfl c3 c4 S.top ?_
  refine PySem.W.ks_loadName_global I.ok.kind S.ks (Calls.loadGlobal_builtin (by rw [I.ok.glob]; exact I.mod.glob.keeps I.bk) S.sup (by rw [I.ok.blt]; exact b1.keeps I.bk) ((b2 "super" (by decide)).trans PyProof.Rows.Boot.«super») ⟨rfl, ?_⟩)
  refine wpAny_loadName_free I.ok.kind S.kc d1 ⟨_, KX _ _ d2, rfl⟩ ?_
  rw [e4]
  refine wpAny_loadName_local I.ok.kind S.sl hn hv ?_
  obtain ⟨hh, gg, dd, tt, os⟩ := s
  refine PySem.ks_wpAny_isType_cls hD1 hD2 ⟨rfl, ?_⟩
  refine PySem.ks_wpAny_call_super hD1 hD2 J.at_ J.cls (fun c z => ?_) (PySem.W.looks_mroIn KX hsub) (fun h' q1 q2 => ?_)
  · have := J.no
    unfold PySem.W.notCls at this
    rw [z] at this
    exact Bool.noConfusion this
  · exact h _ h' q2 q1
/-- super().m(e, .., k = v, ..) -/
def tSupG (X : Cx) (Y : WX) (k : Nat) (D : Addr) (m : Str) (np n : Nat) (ks : List Str) (t tk : TA) : TE := fun σ H Q => ∃ a C dx fs g mf, σ[0]? = some (some (.ref a)) ∧ H a = some (.ins C dx fs) ∧ SupC X.K C D m g ∧ Ent X.prog X.w X.K X.mg X.base k g np (n + 1) ks mf ∧
  t σ H fun vs H1 => tk σ H1 fun zs H2 => vs.length = n ∧ zs.length = ks.length ∧ spM X.K np mf (.ref a :: (vs ++ zs)) H2 Q (WE Y σ)
/-- an expression of such a def's first statement -/
def PEA (X : Cx) (body : List Stmt) (e : Expr) (t : TE) : Prop := ∀ (pins : List (Addr × Obj)) (s : Shared) (σ : L2.St) (H : Hp) (Q : VK), Inv X pins σ H s → t σ H Q → _root_.PySem.wpAt (model X.prog X.w) X.A (.func body X.env) (eval e X.env) (EP X pins σ Q) X.xe s
theorem sup_meth {so a C dx : Addr} {fs : List (Str × V)} {g : Addr} {pl : Sem Bool} {R : Value × List Value → Shared → Prop} (I : Inv X pins σ H s) (hso : s.heap.get? so = some (PySem.W.ks_superObj D a C)) (ha : H a = some (.ins C dx fs)) (c : SupC X.K C D m g) (hm : (m == ("__class__" : Str)) = false)
    (h : ∀ s', Inv X ((s.heap.objs.size, PySem.W.methodObj (.ref g) (.ref a)) :: pins) σ H s' → R (.ref s.heap.objs.size, []) s') : wpAny (model X.prog X.w) X.A (getMethod (.ref so) m pl) R X.xe s := by
  have KX := I.kIn
  obtain ⟨mA, O, _⟩ := ins_get I.hok ha
  obtain ⟨oi, J, _⟩ := O.look
  have at_ := c.at_
  obtain ⟨hh, gg, dd, tt, os⟩ := s
  cases hc : PySem.W.clsIn X.K C with
  | none => unfold PySem.W.ks_superIn at at_; rw [hc] at at_; cases at_
  | some cd =>
    unfold PySem.W.ks_superIn at at_
    rw [hc] at at_
    obtain ⟨og, hog, hogc⟩ : ∃ og, hh.get? g = some og ∧ og.cls = .type "function" := by
      have ty : (X.K.lookup g).map (·.cls) = some (.type "function") := c.ty
      cases z : X.K.lookup g with
      | none => rw [z] at ty; cases ty
      | some og => rw [z] at ty; exact ⟨og, KX _ _ z, Option.some.inj ty⟩
    refine PySem.ks_wpAny_getMethod_super hso (PySem.W.looks_opaque KX c.opq) (l₀ := cd.mro) ?_ rfl KX at_ hog hogc (PySem.W.ks_ne KX J hc) hm ?_
    · exact fun A Q E s k q => wpAny_bind ((PySem.W.looks_clsIn KX hc) A _ E s k (wpAny_pure q))
    · exact h _ (met_new I)
theorem pea_sup {pl : Sem Bool} (S : SupX X slf D) (hgd : X.A.guards = some []) (hr : Room k X.A) (tY : Takes X Y) (ha : PA X (e :: es) t) (hkw : PK X kws tk) (hm : (m == ("__class__" : Str)) = false := by decide) (hall : (backToKw pos (keywordEach kws X.env)).all (·.1.isSome) = true := by rfl) (hks : (backToKw pos (keywordEach kws X.env)).filterMap (·.1) = ks := by rfl)
    (hst : starEach (e :: es) X.env = (false, eval e X.env) :: starEach es X.env := by rfl)
    (ht : eval (.Call (.Attribute (.Call (.Name "super" p0) [] [] p1) m apos) (e :: es) kws pos) X.env = (do
      let ov ← attributeBase (.Call (.Name "super" p0) [] [] p1) m X.env (eval (.Call (.Name "super" p0) [] [] p1) X.env)
      standAt apos.atName
      let (f, first) ← holding [ov] (getMethod ov m pl)
      callWith pos f first (backTo pos (starEach (e :: es) X.env)) (backToKw pos (keywordEach kws X.env))) := by rfl) :
    PEA X body (.Call (.Attribute (.Call (.Name "super" p0) [] [] p1) m apos) (e :: es) kws pos) (tSupG X Y k D m np n ks t tk) := by
  intro pins s σ H Q I h
  obtain ⟨a, C, dx, fs, g, mf, h0, hH, c, F, q⟩ := h
  obtain ⟨fd, ps, hnp, G, hb⟩ := F.ex
  rw [ht]
  refine _root_.PySem.wpAt_bind (sup_base S I h0 hH c.sub hm fun so h' keep hso => ?_)
  have I1 : Inv X pins σ H { s with heap := h' } := I.kept (t' := s.toks) keep
  refine _root_.PySem.wpAt_of_wpAny (wpAny_bind (wpAny_standAt (wpAny_bind (wpAny_holding (sup_meth I1 hso hH c hm fun s2 I2 => ?_)))))
  refine callWith_any (P := fun h => PySem.W.MethP X.K _ g (.ref a) h) (first := []) (fun h z => PySem.W.keeps_M c.fi h z) (PyProof.Rows.evalArgs_kw2 hall (thn (ha.run pos _ s2 σ H _ I2 q) ?_) hst)
  rintro us s3 ⟨vs, H3, I3, r, q3⟩
  refine thn (hkw.run pos _ s3 σ H3 _ I3 q3) ?_
  rintro ws s4 ⟨zs, H4, I4, rz, l1, l2, q4⟩
  rw [hks]
  refine ⟨⟨pin_at I4, I4.kIn⟩, ?_⟩
  have ln : (Value.ref a :: us).length = n + 1 := by rw [List.length_cons, ← r.length, l1]
  have rr : Vals (V.ref a :: vs) (Value.ref a :: us) := .cons rfl r
  have go := run_codeG G hgd hr (passAt tY σ) I4 (hb.to s4 (Value.ref a :: us) ws I4.kIn ln (rz.length.symm.trans l2)) (hb.rel rr rz) q4
  refine wpAny_mono (wpAny_call (PySem.W.method_call (pin_at I4) go)) (fun _ _ y => unpinE y) fun _ _ y => y
end
end Dn
/-! Ob8: defs whose first statement asks super(). -/
namespace Dn
open PySem L2 ClX NdefX PySem.Spec PyProof.Rows
section
variable {Y : WX} {X : Cx} {k np n i : Nat} {ks : List Str} {slf m x : Str} {D : Addr} {body rest : List Stmt} {p0 p1 apos pos px : Pos} {e l r : Expr} {es : List Expr} {kws : List Keyword} {t tk : TA} {te ta tb : TE} {st : Stmt} {ts us : TS} {op : Operator} {ro : R2}
/-- a statement of such a def, the first one -/
def PSA (X : Cx) (body : List Stmt) (st : Stmt) (t : TS) : Prop := ∀ (pins : List (Addr × Obj)) (s : Shared) (σ : L2.St) (H : Hp) (D : Ends), Inv X pins σ H s → t D σ H → _root_.PySem.wpAt (model X.prog X.w) X.A (.func body X.env) (exec st X.env) (SP X pins D) X.xe s
theorem psa_ret (he : PEA X body e te) : PSA X body (.Return (some e) pos) (tRet te) := fun pins s σ H D I h =>
  PySem.ks_wpAt_Return_some (PySem.ks_wpAt_mono (he pins s σ H _ I h) (fun v s1 ⟨xx, H1, I1, r1, q1⟩ => ⟨xx, σ, H1, I1, r1, q1⟩) fun _ _ z => z)
theorem psa_expr (he : PEA X body e te) (hi : interactive X.env = false := by rfl) (hs : swapsWith e none pos.line X.env = pure false := by rfl) : PSA X body (.Expr e pos) (tDrop te) := fun pins s σ H D I h =>
  PySem.ks_wpAt_Expr_any (PySem.ks_wpAt_mono (he pins s σ H _ I h) (fun v s1 ⟨xx, H1, I1, r1, q1⟩ => ⟨σ, H1, I1, q1⟩) fun _ _ z => z) hi hs
def PSSA (X : Cx) (body blk : List Stmt) (t : TS) : Prop := ∀ (pins : List (Addr × Obj)) (s : Shared) (σ : L2.St) (H : Hp) (D : Ends), Inv X pins σ H s → t D σ H → _root_.PySem.wpAt (model X.prog X.w) X.A (.func body X.env) (execs blk X.env) (SP X pins D) X.xe s
theorem pssa_cons (h1 : PSA X body st ts) (h2 : PSs X rest us) : PSSA X body (st :: rest) (tSeq ts us) := fun pins s σ H D I h => by
  refine PySem.ks_wpAt_execs_cons (PySem.ks_wpAt_mono (h1 pins s σ H { D with nx := us D } I h) (fun f s1 q => ?_) fun _ _ z => z)
  cases f with
  | next =>
    obtain ⟨σ', H', I', q⟩ := q
    exact _root_.PySem.wpAt_of_wpAny (h2.run pins s1 σ' H' D I' q)
  | ret v => exact q
  | brk => exact q
  | cont => exact q
end
/-! ### the def -/
/-- the names of such a def: its parameters, then __class__ -/
abbrev nfOf (x qual : Str) (st : Stmt) (cc cda : Addr) : NF := ⟨x, qual, defArgs st, defBody st, defScope st, [("__class__", cc)], cda⟩
/-- a def that stands in the module with the cell of its class -/
structure FunS (K : PySem.W.Frag) (x qual : Str) (st : Stmt) (f : Addr) (fd : FuncData) (cc cda : Addr) : Prop where
  ex : ∃ (oc : Value) (od : Option Addr) (dV kV doc pm : Value) (an : Option Addr) (ct : Value) (osl : Array (Option Value)),
    fd = PySem.W.fnX x qual (defArgs st) (defBody st) (defScope st) [("__class__", cc)] dV kV doc pm an (.ref cda) ct ∧ K.lookup f = some ⟨oc, od, .func fd, osl⟩ ∧ PySem.W.codeIn K (.ref cda) qual = true
  cell : ∃ (oc : Value) (od : Option Addr) (v : Option Value) (osl : Array (Option Value)), K.lookup cc = some ⟨oc, od, .cell v, osl⟩
abbrev supX (P : Program) (w : World) (K : PySem.W.Frag) (mg : Str → Option Value) (base : Heap) (N : List Str) (x qual : Str) (st : Stmt) (cc cda f : Addr) (A : Around) (outer : List PySem.Env) (s : Shared) (H : Hp) (E : XK) : Cx := ncx (L2.CX P w) P w K mg base N (nfOf x qual st cc cda) f A outer s H E
theorem fn_ofS {P : Program} {w : World} {K : PySem.W.Frag} {mg : Str → Option Value} {base : Heap} {k : Nat} {f cc cda : Addr} {fd : FuncData} {x qual : Str} {st : Stmt} {N ps : List Str} {sp : Sp}
    (F : FunS K x qual st f fd cc cda) (S : NScope N ps ["__class__"] (defScope st)) (len : ∀ vs H Q E, sp vs H Q E → vs.length = ps.length)
    (hbody : ∀ (A : Around) (outer : List PySem.Env) (s : Shared) (H : Hp) (vs : List V) (Q : VK) (E : XK), (supX P w K mg base N x qual st cc cda f A outer s H E).A.guards = some [] → Room k (supX P w K mg base N x qual st cc cda f A outer s H E).A → sp vs H Q E →
      ∃ t, PSSA (supX P w K mg base N x qual st cc cda f A outer s H E) (defBody st) (defBody st) t ∧ t { nx := fun _ H' => Q .non H', rt := Q } (L2.start N vs) H) :
    FnG P w K mg base (L2.CX P w) (k + 1) f fd ps sp := by
  refine ⟨len, fun A outer s H args us vs Q E hgd hr e0 hb r hsp => ?_⟩
  have hl := len _ _ _ _ hsp
  obtain ⟨oc, od, dV, kV, doc, pm, an, ct, osl, rfl, lk, hcd⟩ := F.ex
  obtain ⟨occ, odc, vc, oslc, lkc⟩ := F.cell
  have KX : K.In s.heap := e0.mod.kin.keeps fun b o e => (e0.bs b o e).1
  have lim : s.heap.NoLimit := e0.mod.nolimit.keeps fun b o e => (e0.bs b o e).1
  have hcc : H cc = none := (e0.bs cc _ (e0.mod.kin _ _ lkc)).2
  refine PySem.ks_codeAny_call_defAt (binds := ps.zip us) hr.depth (KX _ _ lk) rfl lim (PySem.W.codeRec_of KX hcd) rfl hb S.nocell (fun ⟨n, _⟩ hy => S.par n (List.of_mem_zip hy).1) (fun h₁ hns kp => ?_) S.co S.gen S.kind
  have CA : CellsAt [("__class__", cc)] ["__class__"] [none] s.heap H := by
    have one : ∀ {y : Str} {c : Addr}, ([(("__class__" : Str), cc)] : List (Str × Addr)).lookup y = some c → y = "__class__" ∧ c = cc := fun {y c} z => by
      rw [List.lookup] at z
      split at z
      · rename_i hy
        exact ⟨beq_iff_eq.mp hy, (Option.some.inj z).symm⟩
      · cases z
    refine ⟨rfl, fun y c z => ?_, fun y z c h1 h2 => (one h1).1.trans (one h2).1.symm, fun i y hi => ?_⟩
    · obtain ⟨_, rfl⟩ := one z
      exact ⟨hcc, vc, _, KX _ _ lkc, rfl⟩
    · cases i with
      | zero =>
        cases hi
        exact ⟨cc, by simp [List.lookup], fun v z => by cases z⟩
      | succ i => cases hi
  have I : Inv (supX P w K mg base N x qual st cc cda f A outer s H E) [] (startF N vs [none]) H { s with heap := h₁, toks := s.toks + (ps.zip us).length } := inv_startN S hr.hd e0 hl r CA hns kp
  have e2 : startF N vs [none] = L2.start N vs := by
    have hpl : ps.length + 1 ≤ N.length := by
      have q := congrArg List.length S.pre
      rw [List.length_take, List.length_append] at q
      have q : min (ps.length + 1) N.length = ps.length + 1 := q
      omega
    unfold startF L2.start
    have e3 : N.length - vs.length = (N.length - vs.length - [(none : Option V)].length) + 1 := by
      show N.length - vs.length = N.length - vs.length - 1 + 1
      omega
    rw [e3, List.replicate_succ]
    rfl
  rw [e2] at I
  obtain ⟨t, ht, hq⟩ := hbody A outer s H vs Q E hgd (hr.deeper _) hsp
  have fin : ∀ {σ' : L2.St} {H' : Hp} {v : V} {u : Value} {s' : Shared}, Inv (supX P w K mg base N x qual st cc cda f A outer s H E) [] σ' H' s' → RelV v u → Q v H' → CE outer P w H s Q u s' := fun {σ' H' v u s'} J rv q => ⟨v, H', J.os, J.bare, J.base, J.hok, rv, q⟩
  refine PySem.ks_wpAt_mono (ht [] _ (L2.start N vs) H _ I hq) (fun fl s' hs => ?_) fun e s' hs => hs
  match fl, hs with
  | .ret u, ⟨v, σ', H', J, rv, q⟩ => exact fin J rv q
  | .next, ⟨σ', H', J, q⟩ => exact fin (v := V.non) (u := Value.none) J rfl q
  | .brk, ⟨_, _, _, q⟩ => exact False.elim q
  | .cont, ⟨_, _, _, q⟩ => exact False.elim q
end Dn
/-! Ob9: super() in short; instances called. -/
namespace Dn
open PySem L2 ClX NdefX PySem.Spec PyProof.Rows
/-- what super().m is, by the class of self -/
structure SupTab (P : Program) (w : World) (K : PySem.W.Frag) (mg : Str → Option Value) (base : Heap) (k : Nat) (D : Addr) (m : Str) (np n : Nat) (ks : List Str) (tab : List (Str × Fn)) : Prop where
  ok : ∀ c mf, tab.lookup c = some mf → ∃ C g, ClsAt K c C ∧ SupC K C D m g ∧ Ent P w K mg base k g np n ks mf
def supM (tab : List (Str × Fn)) (n : Nat) (r : M (List PV)) : M PV := fun (s : S) => match s.env[0]? with
  | some (some (SV.val d)) => (match insOf s d with
    | some (c, _, _) => (match tab.lookup c with
      | some f => bnd r (fun ds => runM f n (d :: ds)) s
      | none => .stk)
    | none => .stk)
  | _ => .stk
section
variable {Y : WX} {X : Cx} {k j np n i : Nat} {ks : List Str} {slf m x : Str} {D : Addr} {body rest : List Stmt} {p0 p1 apos pos px : Pos} {e l r : Expr} {es : List Expr} {kws : List Keyword} {ca cb : M (List PV)} {ce cl cr : M PV} {tab : List (Str × Fn)} {st : Stmt} {σ : L2.St} {H : Hp} {Q : VK} {fa fb : M Fl}
theorem den_sup (T : SupTab X.prog X.w X.K X.mg X.base k D m np (i + 1) ks tab) (h : den X.K Y (supM tab n (appA i ks.length ca cb)) σ H Q) : tSupG X Y k D m np i ks (denA X.K Y ca) (denA X.K Y cb) σ H Q := by
  obtain ⟨C, W, s, at', p⟩ := h
  unfold supM at p
  split at p
  · rename_i d he
    obtain ⟨v, hv, rv⟩ := at'.val 0 d he
    split at p
    · rename_i c kk vv e
      split at p
      · rename_i mf hmf
        obtain ⟨a, Cc, dx, us, rfl, h1, h2, ll, ru⟩ := insOf_rep at' rv e
        obtain ⟨C2, g, k1, k2, F⟩ := T.ok c mf hmf
        cases cls_uniq h1 k1
        refine ⟨a, _, dx, _, g, mf, hv, h2, k2, F, ?_⟩
        refine den_appA at' (f := fun ds s => runM mf n (d :: ds) s) p fun ds es s2 W2 H2 l2 a2 p2 us ws r1 r2 l1 l2' => ?_
        exact ⟨l1, l2', sp_run F.len a2 (.cons (rv.mono l2) (r1.append r2)) p2⟩
      · exact p.elim
    · exact p.elim
  · exact p.elim
theorem pea_imp {te te' : TE} (h : PEA X body e te) (f : ∀ σ H Q, te' σ H Q → te σ H Q) : PEA X body e te' := fun pins s σ H Q I q => h pins s σ H Q I (f σ H Q q)
theorem psa_imp {t t' : TS} (h : PSA X body st t) (f : ∀ D σ H, t' D σ H → t D σ H) : PSA X body st t' := fun pins s σ H D I q => h pins s σ H D I (f D σ H q)
theorem asup {pl : Sem Bool} (n : Nat) (T : SupTab X.prog X.w X.K X.mg X.base j D m np (i + 1) ks tab) (S : SupX X slf D) (hgd : X.A.guards = some []) (hr : Room k X.A) (tY : Takes X Y) (hjk : j ≤ k) (ha : PA X (e :: es) (denA X.K Y ca)) (hkw : PK X kws (denA X.K Y cb)) (hm : (m == ("__class__" : Str)) = false := by decide) (hall : (backToKw pos (keywordEach kws X.env)).all (·.1.isSome) = true := by rfl) (hks : (backToKw pos (keywordEach kws X.env)).filterMap (·.1) = ks := by rfl)
    (hst : starEach (e :: es) X.env = (false, eval e X.env) :: starEach es X.env := by rfl)
    (ht : eval (.Call (.Attribute (.Call (.Name "super" p0) [] [] p1) m apos) (e :: es) kws pos) X.env = (do
      let ov ← attributeBase (.Call (.Name "super" p0) [] [] p1) m X.env (eval (.Call (.Name "super" p0) [] [] p1) X.env)
      standAt apos.atName
      let (f, first) ← holding [ov] (getMethod ov m pl)
      callWith pos f first (backTo pos (starEach (e :: es) X.env)) (backToKw pos (keywordEach kws X.env))) := by rfl) :
    PEA X body (.Call (.Attribute (.Call (.Name "super" p0) [] [] p1) m apos) (e :: es) kws pos) (den X.K Y (supM tab n (appA i ks.length ca cb))) := pea_imp (pea_sup S hgd (hr.mono hjk) tY ha hkw hm hall hks hst ht) fun _ _ _ => den_sup T
theorem aret (he : PEA X body e (den X.K Y ce)) : PSA X body (.Return (some e) pos) (denS X.K Y (retM ce)) := psa_imp (psa_ret he) fun _ _ _ => den_return
theorem aexpr (he : PEA X body e (den X.K Y ce)) (hi : interactive X.env = false := by rfl) (hs : swapsWith e none pos.line X.env = pure false := by rfl) : PSA X body (.Expr e pos) (denS X.K Y (dropM ce)) := psa_imp (psa_expr he hi hs) fun _ _ _ => den_drop
theorem pssa_imp {blk : List Stmt} {t t' : TS} (h : PSSA X body blk t) (f : ∀ D σ H, t' D σ H → t D σ H) : PSSA X body blk t' := fun pins s σ H D I q => h pins s σ H D I (f D σ H q)
theorem acons1 (h1 : PSA X body st (denS X.K Y fa)) (h2 : PSs X rest (denS X.K Y fb)) : PSSA X body (st :: rest) (denS X.K Y (seqM fa fb)) := pssa_imp (pssa_cons h1 h2) fun _ _ _ => den_seq
end
/-- THE RULE: such a def keeps the promise of its computation -/
theorem fn_denS {P : Program} {w : World} {K : PySem.W.Frag} {mg : Str → Option Value} {base : Heap} {k : Nat} {f cc cda : Addr} {fd : FuncData} {x qual : Str} {st : Stmt} {N ps : List Str} {body : Nat → M Fl}
    (F : FunS K x qual st f fd cc cda) (S : NScope N ps ["__class__"] (defScope st)) (hN : ps.length ≤ N.length)
    (hbody : ∀ (A : Around) (outer : List PySem.Env) (s : Shared) (H : Hp) (E : XK) (n : Nat), (supX P w K mg base N x qual st cc cda f A outer s H E).A.guards = some [] → Room k (supX P w K mg base N x qual st cc cda f A outer s H E).A →
      Takes (supX P w K mg base N x qual st cc cda f A outer s H E) (yE E) → PassesOwn (model P w) (supX P w K mg base N x qual st cc cda f A outer s H E).A (supX P w K mg base N x qual st cc cda f A outer s H E).env (supX P w K mg base N x qual st cc cda f A outer s H E).xe →
      PSSA (supX P w K mg base N x qual st cc cda f A outer s H E) (defBody st) (defBody st) (denS K (yE E) (body n))) :
    FnG P w K mg base (L2.CX P w) (k + 1) f fd ps (spM K ps.length (fnM ps.length N.length body)) := by
  refine fn_ofS F S (fun vs H Q E h => h.1) fun A outer s H vs Q E hgd hr hsp => ?_
  obtain ⟨n, h⟩ := start_den hN hsp
  exact ⟨_, hbody A outer s H E n hgd hr (takes_of rfl rfl rfl rfl) (passes_of rfl), h⟩
end Dn
/-! Ex1: own exception classes of one field, over any built-in class; raised. -/
namespace Dn
open PySem L2 PySem.Spec PyProof.Rows
/-- the first attribute stored on an exception, whatever built-in class stands above its own -/
theorem osa_any {prog : Program} {w : World} {A : Around} {R : Result → Shared → Prop} {hp : Heap} {g : Array GenState} {d : Drawn} {t : Nat} {os : OsState} {K : W.Frag} {name : Str} {tk : Tok} {v : Value} {x C : Addr} {fv : Array Value} {cd : ClassData} {bm : List Value}
    (X : K.In hp) (hx : hp.get? x = some { cls := .ref C, data := .fields fv }) (hcd : W.clsIn K C = some cd) (hm : cd.mro = .ref C :: bm) (hpass : ∀ self, refuseLoop self "__setattr__" bm = pure ()) (hob : bm.contains (.type "object") = true) (hh : cd.hasDict = true) (ha : W.findIn K (.ref C) name = some none)
    (hq : ∀ h' tk' dx, (∀ b o, b ≠ x → hp.get? b = some o → h'.get? b = some o) → hp.objs.size ≤ dx → dx ≠ x → h'.get? x = some { cls := .ref C, dict := some dx, data := .fields fv } →
      h'.Ns1 dx (fun y => if y = name then some v else none) → R (.ok (.ret .none)) ⟨h', g, d, tk', os⟩) :
    codeAny (model prog w) A (.call (.builtin "object.__setattr__") ⟨[.ref x, .str name tk, v], []⟩) R ⟨hp, g, d, t, os⟩ := by
  have I : W.InstAt hp x { cls := .ref C, data := .fields fv } C none := ⟨hx, rfl, rfl, trivial⟩
  have SF := F.store_object
  have far : x ≠ hp.objs.size := Nat.ne_of_lt (Heap.lt_size hx)
  have isob : W.mroIn K C (.type "object") = some true := by
    unfold W.mroIn
    rw [hcd, Option.bind_some, hm, if_neg (show ¬ ((Value.ref C :: bm).isEmpty = true) from Bool.false_ne_true), List.contains_cons, hob, Bool.or_true]
  have sub : W.Looks (model prog w) hp (isInstance (.ref x) (.type "object")) true := I.type.andThen (W.looks_mroIn X isob)
  refine codeAny_call_builtin SF.slot.plain SF.entry (@W.check_slot (model prog w) _ _ ⟨hp, g, d, t, os⟩ "object.__setattr__" "object" "__setattr__" (.ref x) [.str name tk, v] [] _ SF.kind SF.split sub (SF.args (.ref x) (.str name tk) v) ?_)
  have hmr : W.Looks (model prog w) hp (mroOf (.ref C)) cd.mro := (W.looks_clsIn X hcd).andThen .now
  have lst : W.Looks (model prog w) hp (Builtin.ObjectAttr.storeTaker? none) none := .now
  have hcls : W.Looks (model prog w) hp (classData C) cd := W.looks_clsIn X hcd
  have pass : refuseLoop (.ref x) "__setattr__" cd.mro = pure () := by rw [hm, refuseLoop_ref]; exact hpass _
  rw [W.osa_eq, refuse_eq]
  refine wpAny_bind (wpAny_bind (I.type.at (wpAny_bind (hmr.at ?_))))
  rw [pass]
  refine wpAny_pure (wpAny_bind (I.type.at (wpAny_bind ((W.looks_findIn X ha).at (wpAny_bind (lst.at ?_))))))
  show wpAny _ _ (Builtin.ObjectAttr.storeInOwnDict (.ref x) (.ref C) (.str name tk) name v false) _ _ _
  obtain ⟨nm, bs, mro, ns, qn, hd, sn, sb, ab, col, del⟩ := cd
  dsimp only at hh
  subst hh
  unfold Builtin.ObjectAttr.storeInOwnDict Builtin.ObjectAttr.ownDictForStores
  repeat (first | with_reducible refine PySem.HandSPX.store_in_new ?_ ?_ | with_reducible refine wpAny_loadPart_at hx ?_ | with_reducible refine hcls.at ?_ | wp_step)
  · exact ⟨_, #[], _, (Heap.get?_update_ne _ _ _ _ far.symm).trans (Heap.get?_push_at rfl rfl), rfl, fun e he => absurd he (by simp), fun _ => rfl⟩
  · intro h' tk' hn' hs
    have up : (hp.push { cls := .type "dict", data := .dict #[] }).get? x = some { cls := .ref C, data := .fields fv } := Heap.get?_push_of_some _ hx
    refine hq h' tk' hp.objs.size (fun b o hb ho => ?_) (Nat.le_refl _) far.symm ?_ hn'
    · exact (hs.2 b (Nat.ne_of_lt (Heap.lt_size ho))).trans ((Heap.get?_update_ne _ _ _ _ hb).trans (Heap.get?_push_of_some _ ho))
    · exact (hs.2 x far).trans (Heap.get?_update_self _ up rfl)
/-- what is told of an own exception class over the built-in class B -/
structure OexB (K : PySem.W.Frag) (C : Addr) (B newId initId : String) (bm : List Value) : Prop where
  facts : ExcBaseFacts B newId initId bm
  cls : ∃ nm q N bs sn sub ab col dd k0 k1 k2 k3 k5, K.lookup C = some (excClassObj nm q C N bs bm true sn sub ab col dd k0 k1 k2 k3 k5 newId)
  pass : ∀ self, refuseLoop self "__setattr__" bm = pure ()
  obj : bm.contains (.type "object") = true
  sa : PySem.W.findIn K (.ref C) "__setattr__" = some (some (.builtin "object.__setattr__"))
  exC : PySem.W.subIn K (.ref C) (.type "BaseException") = some true
  tyC : PySem.W.typeIn K (.ref C) = some (.type "type")
  kC : PySem.W.keepIn K (.ref C) = true
section
variable {X : Cx} {pins : List (Addr × Obj)} {σ : L2.St} {H : Hp} {s : Shared} {a C dx : Addr} {f : Str} {y : V} {u : Value} {A : Around} {E : Value → Shared → Prop} {B newId initId : String} {bm : List Value}
theorem ostB {Q : Unit → Shared → Prop} (T : OexB X.K C B newId initId bm) (I : Inv X pins σ H s) (e : H a = some (exo a C none)) (hno : PySem.W.findIn X.K (.ref C) f = some none) (ry : RelV y u)
    (h : ∀ dx s', H dx = none → dx ≠ a → Inv X pins σ (upd (upd H dx (exd dx [(f, y)])) a (exo a C (some dx))) s' → Q () s') : wpAny (model X.prog X.w) A (setAttr (.ref a) f u) Q E s := by
  obtain ⟨nm, q, N, bs, sn, sub, ab, col, dd, k0, k1, k2, k3, k5, hC⟩ := T.cls
  have hcl : PySem.W.clsIn X.K C = some { name := nm, bases := bs, mro := .ref C :: bm, ns := N, qualname := q, hasDict := true, slotNames := sn, subclasses := sub, abstract := ab, collection := col, hasDel := false } := by
    unfold PySem.W.clsIn
    rw [hC] <;> rfl
  obtain ⟨t1, ho⟩ := exo_at I.hok e
  obtain ⟨hp, g, d, t, os⟩ := s
  refine PySem.W.set_plain I.kIn (ox := { cls := .ref C, dict := none, data := .fields #[.ref t1, .none, .none, .none, .bool false, .none] }) (od := none) ⟨ho, rfl, rfl, trivial⟩ T.sa ?_
  refine osa_any I.kIn ho hcl rfl T.pass T.obj rfl hno (fun h' tk' dx k dn dne hx hn => ?_)
  have free : H dx = none := I.hok.fresh dn
  have old : ∀ {b : Addr} {o : Obj}, hp.get? b = some o → b ≠ dx := fun {b o} q => Nat.ne_of_lt (Nat.lt_of_lt_of_le (Heap.lt_size q) dn)
  have nota : ∀ {b : Addr}, H b = none → b ≠ a := fun {b} n z => by
    rw [z, e] at n
    cases n
  have U : Un X.fs [] H (upd (upd H dx (exd dx [(f, y)])) a (exo a C (some dx))) hp h' := by
    refine ⟨fun b o q n _ _ => k b o (nota n) q, fun b o q n _ _ => ⟨o.slots, k b o (nota n) q⟩, fun b o q n _ => ?_, fun b o q _ => ?_, fun b xs q => ?_, fun b o v q => ?_, fun b ps q => ⟨#[], ?_⟩⟩
    · rw [upd_ne (nota n), upd_ne (old q)]
      exact n
    · by_cases hb : b = a
      · exact ⟨_, by rw [hb]; exact hx⟩
      · exact ⟨o, k b o hb q⟩
    · rw [upd_ne (at_ne e q exo_tup), upd_ne (ne_of_none q free)]
      exact q
    · rw [upd_ne (at_ne e q exo_frz), upd_ne (ne_of_none q free)]
      exact q
    · rw [upd_ne (at_ne e q exo_tbl), upd_ne (ne_of_none q free), q]
      simp
  refine h dx _ free dne (I.un (t' := tk') U fun b o q => ?_)
  by_cases hb : b = a
  · subst hb
    rw [upd_same] at q
    cases q
    exact exo_ok hx
  · rw [upd_ne hb] at q
    by_cases hd : b = dx
    · subst hd
      rw [upd_same] at q
      cases q
      exact exd_ok hn (relO_put (fs := []) ry fun g => True.intro)
    · rw [upd_ne hd] at q
      refine (I.hok b o q).stay (fun c v hc z => k c v ?_ z) (fun c hc => ?_) (fun c xs hc => ?_)
      · rcases hc with hc | hc
        · rw [hc]
          exact hb
        · exact at_ne e hc exo_own
      · rw [upd_ne (at_ne e hc exo_own), upd_ne (ne_of_none hc free)]
        exact hc
      · rw [upd_ne (at_ne e hc exo_tup), upd_ne (ne_of_none hc free)]
        exact hc
/-- B.__init__(self, ..): nothing of it is told -/
theorem oinitB {us : List Value} {Q : Value → Shared → Prop} (T : OexB X.K C B newId initId bm) (I : Inv X pins σ H s) (e : H a = some (exo a C none)) (hl : us.length ≤ sizeLine) (h : ∀ s', Inv X pins σ H s' → Q .none s') :
    wpAny (model X.prog X.w) A (call (.builtin initId) (.ref a :: us)) Q E s := by
  obtain ⟨nm, q, N, bs, sn, sub, ab, col, dd, k0, k1, k2, k3, k5, hC⟩ := T.cls
  obtain ⟨t1, ho⟩ := exo_at I.hok e
  obtain ⟨hp, g, d, t, os⟩ := s
  refine wpAny_call (PySem.HandSPX.init_base T.facts (fun _ => rfl) (I.kIn _ _ hC) ho hl fun h' t2 k hx => ?_)
  have J := I.write (t' := t) (x := a) (e := a) (o := exo a C none) (by rw [e]; exact True.intro) (.inl rfl) k ⟨_, hx⟩ (exo_ok hx)
  have same : upd H a (exo a C none) = H := by
    funext b
    by_cases hb : b = a
    · rw [hb, upd_same, e]
    · rw [upd_ne hb]
  rw [same] at J
  exact h _ J
end
/-! ### the rules -/
def tBI (K : PySem.W.Frag) (B newId initId : String) (bm : List Value) (ta : TA) : TE := fun σ H Q => ta σ H fun vs H1 => ∃ (a C : Addr) (ws : List V), vs = .ref a :: ws ∧ ws.length ≤ 1000 ∧ OexB K C B newId initId bm ∧ H1 a = some (exo a C none) ∧ Q .non H1
def tOstB (K : PySem.W.Frag) (B newId initId : String) (bm : List Value) (f : Str) (to te : TE) : TS := fun D σ H => te σ H fun y H1 => to σ H1 fun x H2 => ∃ a C : Addr, x = .ref a ∧ OexB K C B newId initId bm ∧ PySem.W.findIn K (.ref C) f = some none ∧
  H2 a = some (exo a C none) ∧ ∀ dx, H2 dx = none → dx ≠ a → D.nx σ (upd (upd H2 dx (exd dx [(f, y)])) a (exo a C (some dx)))
section
variable {X : Cx} {o e : Expr} {es : List Expr} {to te : TE} {ta : TA} {f b : Str} {p p' p1 p2 pos : Pos} {B newId initId : String} {bm : List Value}
theorem pe_binit {pl : Sem Bool} (hg : Gl X b) (hm : X.mg b = none) (hv : bootBuiltins b = some (.type B)) (ht : typeOf (.type B) = pure (.type "type")) (hstub : Manifest.isStub B = false) (vV : PySem.W.findCls X.K (.type B) (.type "type") "__init__" = some (.val (.builtin initId))) (hhand : PySem.W.handedIn (.builtin initId) = true)
    (ha : PA X (e :: es) ta) (hn : b ≠ "__name__" := by decide) (hdb : (b == ("__debug__" : Str)) = false := by decide)
    (hc : eval (.Call (.Attribute (.Name b p1) "__init__" p2) (e :: es) [] pos) X.env = (do
      let ov ← eval (.Name b p1) X.env
      standAt p2.atName
      let (f, first) ← holding [ov] (getMethod ov "__init__" pl)
      callWith pos f first (backTo pos (starEach (e :: es) X.env)) (backToKw pos (keywordEach [] X.env))) := by rfl)
    (he : starEach (e :: es) X.env = (false, eval e X.env) :: starEach es X.env := by rfl) (hpl : (backTo pos (starEach es X.env)).any (·.1) = false := by rfl) :
    PE X (.Call (.Attribute (.Name b p1) "__init__" p2) (e :: es) [] pos) (tBI X.K B newId initId bm ta) := by
  refine ⟨fun pins s σ H Q I h => PySem.W.methodCall_KW (ld_blt I hg hm hv ?_ hn hdb) hc⟩
  obtain ⟨m, fr⟩ := I.fr
  refine PySem.W.method_type fr I.ok.mod.kin ht hstub vV hhand ?_
  show wpAny _ _ (callWith pos (Value.builtin initId) [] (backTo pos (starEach (e :: es) X.env)) []) _ _ _
  refine PyProof.Rows.callWith_method1 (thn (ha.run pos pins _ σ H _ (I.tok _) h) ?_) he hpl
  rintro us s1 ⟨vs, H1, I1, r1, a, C, ws, ev, hl, T, ea, q⟩
  subst ev
  cases r1 with
  | @cons _ u0 _ ur ra rw' =>
    obtain rfl : u0 = Value.ref a := ra
    exact oinitB T I1 ea (by rw [← Paired.length rw', sizeLine_eq]; omega) fun s' J => ⟨.non, H1, J, rfl, q⟩
theorem ps_ostB (ho : PE X o to) (he : PE X e te) (hs : swapsWith e (some (.Attribute o f p')) pos.line X.env = pure false := by rfl) : PS X (.Assign [.Attribute o f p'] e pos) (tOstB X.K B newId initId bm f to te) := by
  refine ⟨fun pins s σ H D I h => plainObj_wpAny_Assign_Attribute (thn (he.run pins s σ H _ I h) ?_) hs⟩
  rintro v s1 ⟨y, H1, I1, r1, q1⟩
  refine thn (ho.run pins s1 σ H1 _ I1 q1) ?_
  rintro u s2 ⟨x, H2, I2, r2, a, C, ex, T, hno, ea, q⟩
  subst ex
  obtain rfl : u = Value.ref a := r2
  exact ostB T I2 ea hno r1 fun dx s' n ne J => ⟨σ, _, J, q dx n ne⟩
/-- the promise of such an __init__ -/
def spX (C : Addr) (f : Str) : Sp := fun vs H Q _ => ∃ a y, vs = [.ref a, y] ∧ H a = some (exo a C none) ∧ ∀ dx, H dx = none → dx ≠ a → Q .non (upd (upd H dx (exd dx [(f, y)])) a (exo a C (some dx)))
end
end Dn
/-! Ex2: raise C(e); the def __init__ of such a class; try .. except C. -/
namespace Dn
open PySem L2 PySem.Spec PyProof.Rows
section
variable {X : Cx} {σ : L2.St} {H : Hp} {C fI : Addr} {k : Nat} {fd : FuncData} {ps : List Str} {f x : Str} {e : Expr} {es : List Expr} {ta : TA} {p pos : Pos} {B newId initId : String} {bm : List Value}
/-- C(e): an exception with one attribute -/
def tMkB (C : Addr) (f : Str) (ta : TA) : L2.St → Hp → XK → Prop := fun σ H Q => ta σ H fun vs H1 => ∃ y, vs = [y] ∧ ∀ dx, H1 dx = none → Q (.ref C) (some dx) (upd H1 dx (.xd [(f, y)]))
theorem pmk_B (T : OexB X.K C B newId initId bm) (iC : PySem.W.findIn X.K (.ref C) "__init__" = some (some (.ref fI))) (tI : PySem.W.typeIn X.K (.ref fI) = some (.type "function")) (F : FnG X.prog X.w X.K X.mg X.base (L2.CX X.prog X.w) k fI fd ps (spX C f)) (hgd : X.A.guards = some []) (hr : Room (k + 1) X.A)
    (hb : Binds X.K fd ps []) (hg : Gl X x) (hm : X.mg x = some (.ref C)) (ha : PA X (e :: es) ta) (hdb : (x == ("__debug__" : Str)) = false := by decide) (he : starEach (e :: es) X.env = (false, eval e X.env) :: starEach es X.env := by rfl) (hpl : (backTo pos (starEach es X.env)).any (·.1) = false := by rfl) :
    PMk X (.Call (.Name x p) (e :: es) [] pos) (tMkB C f ta) := by
  intro pins s σ H Q I h
  obtain ⟨nm, q, N, bs, sn, sub, ab, col, dd, k0, k1, k2, k3, k5, hC⟩ := T.cls
  refine wpAny_Call_Name_kw (ld_glob I hg hm ?_ hdb)
  refine PySem.W.callWith_K (h₀ := X.base) I.ok.mod.kin T.kC (thn (ha.run pos pins s σ H _ I h) ?_) he hpl
  rintro us s1 ⟨vs, H1, I1, r1, y, ev, q1⟩
  subst ev
  refine ⟨I1.kIn, ?_⟩
  show wpAny _ _ (call (.ref C) us) _ _ _
  obtain ⟨hp, g, dr, tk, os⟩ := s1
  have step : hp.objs.size ≤ hp.objs.size + 1 := Nat.le_succ _
  have free : H1 (hp.objs.size + 1) = none := I1.hok.fresh step
  have keep : ∀ b o, hp.get? b = some o → ((hp.push (PySem.W.kdv_tup us)).push (PySem.HandSPX.excO C hp.objs.size)).get? b = some o := fun b o e => Heap.get?_push_of_some _ (Heap.get?_push_of_some _ e)
  have there : ((hp.push (PySem.W.kdv_tup us)).push (PySem.HandSPX.excO C hp.objs.size)).get? (hp.objs.size + 1) = some (PySem.HandSPX.excO C hp.objs.size) := by heap_get
  have J : Inv X pins σ (upd H1 (hp.objs.size + 1) (exo (hp.objs.size + 1) C none)) ⟨(hp.push (PySem.W.kdv_tup us)).push (PySem.HandSPX.excO C hp.objs.size), g, dr, tk, os⟩ :=
    I1.laid (t' := tk) (a := hp.objs.size + 1) (o := exo (hp.objs.size + 1) C none) (h' := (hp.push (PySem.W.kdv_tup us)).push (PySem.HandSPX.excO C hp.objs.size)) keep step (exo_ok there)
  have rS : Vals [V.ref (hp.objs.size + 1), y] (Value.ref (hp.objs.size + 1) :: us) := .cons rfl r1
  have want : spX C f [V.ref (hp.objs.size + 1), y] (upd H1 (hp.objs.size + 1) (exo (hp.objs.size + 1) C none)) (fun v H2 => v = .non ∧ ∃ dx, H1 dx = none ∧ dx ≠ hp.objs.size + 1 ∧
      H2 = upd (upd (upd H1 (hp.objs.size + 1) (exo (hp.objs.size + 1) C none)) dx (exd dx [(f, y)])) (hp.objs.size + 1) (exo (hp.objs.size + 1) C (some dx))) (fun _ _ _ => False) :=
    ⟨_, y, rfl, upd_same, fun dx n ne => ⟨rfl, dx, by rw [upd_ne ne] at n; exact n, ne, rfl⟩⟩
  have hl : ((Value.ref (hp.objs.size + 1) :: us) ++ []).length = ps.length := by
    rw [List.append_nil, ← rS.length]
    exact F.len _ _ _ _ want
  have bd := hb _ (Value.ref (hp.objs.size + 1) :: us) J.kIn hl
  rw [List.append_nil] at bd
  have few : us.length ≤ sizeLine := by
    rw [← Paired.length r1]
    show 1 ≤ sizeLine
    decide
  have go := F.run _ X.stack _ _ ⟨Value.ref (hp.objs.size + 1) :: us, []⟩ _ _ _ (fun _ _ _ => False) (guards_under hgd) (hr.make C us []) (J.env0.make C us []) bd rS want
  refine wpAny_call (PySem.HandSPX.call_own T.facts (fun _ => rfl) (I1.kIn _ _ hC) (PySem.W.looks_findIn I1.kIn iC) (fun self => PySem.W.bind_fn I1.kIn self tI) few (codeAny_mono go fun res s' hq => ?_))
  match res, hq with
  | .error er, hq =>
    obtain ⟨_, _, _, _, _, _, _, _, _, _, _, _, w⟩ := hq
    exact w.elim
  | .ok (.ret u), hq =>
    obtain ⟨v, H2, os2, bare2, un2, hok2, rv, ev, dx, n1, ne, eH⟩ := hq
    subst ev
    subst eH
    obtain ⟨h2, g2, d2, t2, os'⟩ := s'
    refine ⟨rv, mk_end (fs := [(f, y)]) (d := dx) (raises_own T.exC T.tyC) I1 step keep un2 hok2 os2 bare2 upd_same (by rw [upd_ne ne, upd_same]) n1 ?_⟩
    have eq : upd (L2.del (upd (upd (upd H1 (hp.objs.size + 1) (exo (hp.objs.size + 1) C none)) dx (exd dx [(f, y)])) (hp.objs.size + 1) (exo (hp.objs.size + 1) C (some dx))) (hp.objs.size + 1)) dx (.xd [(f, y)]) = upd H1 dx (.xd [(f, y)]) := by
      funext b
      by_cases hbd : b = dx
      · subst hbd
        rw [upd_same, upd_same]
      · rw [upd_ne hbd, upd_ne hbd]
        by_cases hba : b = hp.objs.size + 1
        · subst hba
          rw [L2.del_same, free]
        · rw [L2.del_ne hba, upd_ne hba, upd_ne hbd, upd_ne hba]
    rw [eq]
    exact q1 dx n1
  | .ok .next, hq => exact False.elim hq
  | .ok .brk, hq => exact False.elim hq
  | .ok .cont, hq => exact False.elim hq
end
/-- its __init__: B.__init__(self, 'a text'), then self.f = value -/
theorem fn_initB {P : Program} {w : World} {K : PySem.W.Frag} {mg : Str → Option Value} {base : Heap} {k : Nat} {fI C : Addr} {fd : FuncData} {x qual f b v txt : Str} {st : Stmt} {B newId initId : String} {bm : List Value} {p1 p2 p3 p4 p5 p6 p7 p8 p9 : Pos} {j : Nat}
    (F : Fun K x qual st fI fd) (S : FnScope ["self", v] ["self", v] (defScope st)) (T : OexB K C B newId initId bm) (hno : PySem.W.findIn K (.ref C) f = some none)
    (hbody : defBody st = [.Expr (.Call (.Attribute (.Name b p1) "__init__" p2) [.Name "self" p3, .Constant (.str txt) j p4] [] p5) p6, .Assign [.Attribute (.Name "self" p7) f p8] (.Name v p9) p6'])
    (go : ∀ (cdv : Value) (A : Around) (outer : List PySem.Env) (s : Shared) (H : Hp) (E : XK), PSs (cxOf (L2.CX P w) P w K mg base ["self", v] qual (defScope st) fI cdv A outer s H E) (defBody st) (tSeq (tDrop (tBI K B newId initId bm (tCons (tVar 0) (tCons (tC (.str txt)) tNil)))) (tOstB K B newId initId bm f (tVar 0) (tVar 1)))) :
    FnG P w K mg base (L2.CX P w) (k + 1) fI fd ["self", v] (spX C f) := by
  obtain ⟨oc, od, dV, kV, doc, pm, an, cdv, ct, osl, rfl, lk, hcd⟩ := F.ex
  refine fn_ofG lk hcd S (fun vs H Q E h => ?_) fun A outer s H vs Q E hgd hr hsp => ⟨_, go cdv A outer s H E, ?_⟩
  · obtain ⟨a, y, rfl, _⟩ := h
    rfl
  · obtain ⟨a, y, rfl, hH, q⟩ := hsp
    exact ⟨.ref a, rfl, a, C, [.str txt], rfl, (by decide : 1 ≤ 1000), T, hH, y, rfl, .ref a, rfl, a, C, rfl, T, hno, hH, fun dx n ne => q dx n ne⟩
/-! ### raise C(e) in a body -/
/-- an own exception class of one field, ready to be raised -/
structure ExK (P : Program) (w : World) (K : PySem.W.Frag) (mg : Str → Option Value) (base : Heap) (k : Nat) (c f : Str) : Prop where
  ex : ∃ C fI fd ps B newId initId bm, ClsAt K c C ∧ mg c = some (.ref C) ∧ OexB K C B newId initId bm ∧ PySem.W.findIn K (.ref C) "__init__" = some (some (.ref fI)) ∧ PySem.W.typeIn K (.ref fI) = some (.type "function") ∧
    FnG P w K mg base (L2.CX P w) k fI fd ps (spX C f) ∧ Binds K fd ps []
def raiseM (c f : Str) (ca : M PV) : M Fl := bnd ca fun d s => .exc (.obj c [f] [d]) s
section
variable {Y : WX} {X : Cx} {k j : Nat} {c f : Str} {e : Expr} {ca : M PV} {p pos : Pos}
theorem sraise (D : ExK X.prog X.w X.K X.mg X.base j c f) (hc : X.calm = true) (hgd : X.A.guards = some []) (hr : Room k X.A) (tY : Takes X Y) (hjk : j + 1 ≤ k) (he : PE X e (den X.K Y ca)) (hg : Gl X c := by rfl) (hdb : (c == ("__debug__" : Str)) = false := by decide) (hs : starEach [e] X.env = (false, eval e X.env) :: starEach [] X.env := by rfl) (hpl : (backTo pos (starEach [] X.env)).any (·.1) = false := by rfl) :
    PS X (.Raise (some (.Call (.Name c p) [e] [] pos)) none pos') (denS X.K Y (raiseM c f ca)) := by
  obtain ⟨C, fI, fd, ps, B, newId, initId, bm, hC, hm, T, iC, tI, F, hb⟩ := D.ex
  refine ps_imp (ps_raise hc tY (pmk_B T iC tI F hgd (hr.mono hjk) hb hg hm (pa_cons he pa_nil hs) hdb hs hpl)) fun D σ H h => ?_
  obtain ⟨C0, W, s, at', p⟩ := h
  refine ⟨C0, W, s, at', (PstS.bnd p).imp fun d s1 W1 H1 l1 at1 p1 v rv => ⟨v, rfl, fun dx hdx => ?_⟩⟩
  obtain ⟨l, a2⟩ := at1.lay hdx (.xd [(f, v)])
  exact p1 _ σ _ _ _ l a2 (.own (us := [v]) hC upd_same rfl (.cons (rv.mono l) .nil))
end
end Dn
/-! Ex3: try .. except C; instances called; constants of a class. -/
namespace Dn
open PySem L2 ClX StX PySem.Spec PyProof.Rows
section
variable {Y : WX} {K : PySem.W.Frag} {D : Ends} {σ : L2.St} {H : Hp} {tab : List (Str × Bool)} {fa fb : M Fl} {cv : Value} {C : Ctx} {W : Vw}
theorem PstS.other {Y' : WX} {r : Res S Fl} (hr : ∀ e s, r ≠ .exc e s) (p : PstS K (C.wi Y) W D r) : PstS K (C.wi Y') W D r := by
  cases r with
  | ok fl s =>
    intro W' σ' H' l a
    have q := p W' σ' H' l (a.wi Y)
    cases fl with
    | ro xs => exact fun b vs ow => q b vs ⟨ow.f, ow.h, ow.g⟩
    | _ => exact q
  | exc e s => exact absurd rfl (hr e s)
  | stk => exact p
end
section
variable {Y : WX} {X : Cx} {k j np n i : Nat} {ks : List Str} {m x f : Str} {a e o : Expr} {es : List Expr} {ca : M (List PV)} {co ce : M PV} {tab : List (Str × Fn)} {etab : List (Str × Bool)} {pos p p1 np' : Pos} {body suite : List Stmt} {b₀ : Stmt} {fa fb : M Fl} {cv : Value}
/-! ### f(e, ..), f an instance -/
structure InsTab (P : Program) (w : World) (K : PySem.W.Frag) (mg : Str → Option Value) (base : Heap) (k np n : Nat) (tab : List (Str × Fn)) : Prop where
  ok : ∀ c mf, tab.lookup c = some mf → ∃ C g, ClsAt K c C ∧ CallO K C g ∧ Ent P w K mg base k g np n [] mf
def insM (tab : List (Str × Fn)) (n : Nat) (co : M PV) (r : M (List PV)) : M PV := bnd co fun d s => match insOf s d with
  | some (c, _, _) => (match tab.lookup c with
    | some f => bnd r (fun ds s2 => match insOf s2 d with
      | some (c2, _, _) => if c2 = c then runM f n (d :: ds) s2 else .stk
      | none => .stk) s
    | none => .stk)
  | none => .stk
def tInsG (X : Cx) (Y : WX) (k np n : Nat) (tf : TE) (t : TA) : TE := fun σ H Q => tf σ H fun y H1 => ∃ a C g mf, y = V.ref a ∧ CallO X.K C g ∧ Ent X.prog X.w X.K X.mg X.base k g np (n + 1) [] mf ∧ t σ H1 fun vs H2 => vs.length = n ∧ (∃ dx fs, H2 a = some (.ins C dx fs)) ∧ spM X.K np mf (V.ref a :: vs) H2 Q (WE Y σ)
theorem pe_insG {fe : Expr} {tf : TE} {t : TA} (hf : PE X fe tf) (hgd : X.A.guards = some []) (hr : Room k X.A) (tY : Takes X Y) (ha : PA X (e :: es) t)
    (ht : eval (.Call fe (e :: es) [] pos) X.env = (do callWith pos (← eval fe X.env) [] (backTo pos (starEach (e :: es) X.env)) (backToKw pos (keywordEach [] X.env))) := by rfl)
    (he : starEach (e :: es) X.env = (false, eval e X.env) :: starEach es X.env := by rfl) (hpl : (backTo pos (starEach es X.env)).any (·.1) = false := by rfl) : PE X (.Call fe (e :: es) [] pos) (tInsG X Y k np n tf t) := by
  refine ⟨fun pins s σ H Q I h => Call_ (thn (hf.run pins s σ H _ I h) ?_) ht⟩
  rintro u s1 ⟨y, H1, I1, ry, a, C, g, mf, ey, c, F, q⟩
  subst ey
  obtain rfl : u = Value.ref a := ry
  obtain ⟨fd, ps, hnp, G, hb⟩ := F.ex
  refine callO_with (thn (ha.run pos pins s1 σ H1 _ I1 q) ?_) he hpl
  rintro us s2 ⟨vs, H2, I2, r, l, ⟨dx, fs, hH⟩, q2⟩
  obtain ⟨ox, od, J, hd⟩ := insC_at (C := C) I2 (.inr ⟨dx, fs, hH⟩)
  have ln : (Value.ref a :: us).length = n + 1 := by rw [List.length_cons, ← r.length, l]
  have bd := hb.to s2 (Value.ref a :: us) [] I2.kIn ln rfl
  have rr := hb.rel (vs := V.ref a :: vs) (us := Value.ref a :: us) (zs := []) (ws := []) (.cons rfl r) .nil
  rw [List.append_nil] at bd rr
  rw [List.append_nil] at rr
  have go := run_codeG G hgd hr (passAt tY σ) I2 bd rr q2
  exact ⟨⟨C, ox, od, J, hd⟩, wpAny_call (PySem.W.kco_code I2.kIn J hd c.at_ c.fn c.fi go)⟩
theorem den_ins {σ : L2.St} {H : Hp} {Q : VK} (T : InsTab X.prog X.w X.K X.mg X.base k np (i + 1) tab) (h : den X.K Y (insM tab n co (bnd ca fun ds => if ds.length = i then ret ds else stuck)) σ H Q) : tInsG X Y k np i (den X.K Y co) (denA X.K Y ca) σ H Q := by
  obtain ⟨C, W, s, at', p⟩ := h
  refine ⟨C, W, s, at', (Pst.bnd p).imp fun d s1 W1 H1 l1 at1 p1 x rx => ?_⟩
  split at p1
  · rename_i c kk vv e
    split at p1
    · rename_i mf hmf
      obtain ⟨a, Cc, dx, us, rfl, h1, h2, l, ru⟩ := insOf_rep at1 rx e
      obtain ⟨C2, g, k1, k2, F⟩ := T.ok c mf hmf
      refine ⟨a, C2, g, mf, rfl, k2, F, C, W1, s1, at1, (Pst.bnd (Pst.bnd p1)).imp fun ds s2 W2 H2 l2 at2 p2 vs rvs => ?_⟩
      by_cases hl : ds.length = i
      · rw [if_pos hl] at p2
        have p3 := p2 W2 H2 (Vw.Le.refl _) at2
        dsimp only at p3
        split at p3
        · rename_i c2 kk2 vv2 e2
          split at p3
          · rename_i hc2
            subst hc2
            obtain ⟨a', Cc', dx', us', ea, h1', h2', l', ru'⟩ := insOf_rep at2 (rx.mono l2) e2
            cases ea
            cases cls_uniq h1' k1
            exact ⟨rvs.length.trans hl, ⟨dx', _, h2'⟩, sp_run F.len at2 (.cons (rx.mono l2) rvs) p3⟩
          · exact p3.elim
        · exact p3.elim
      · rw [if_neg hl] at p2
        exact p2.elim
    · exact p1.elim
  · exact p1.elim
theorem xins {fe : Expr} (n : Nat) (T : InsTab X.prog X.w X.K X.mg X.base j np (i + 1) tab) (hgd : X.A.guards = some []) (hr : Room k X.A) (tY : Takes X Y) (hjk : j ≤ k) (ho : PE X fe (den X.K Y co)) (ha : PA X (e :: es) (denA X.K Y ca))
    (ht : eval (.Call fe (e :: es) [] pos) X.env = (do callWith pos (← eval fe X.env) [] (backTo pos (starEach (e :: es) X.env)) (backToKw pos (keywordEach [] X.env))) := by rfl)
    (he : starEach (e :: es) X.env = (false, eval e X.env) :: starEach es X.env := by rfl) (hpl : (backTo pos (starEach es X.env)).any (·.1) = false := by rfl) :
    PE X (.Call fe (e :: es) [] pos) (den X.K Y (insM tab n co (bnd ca fun ds => if ds.length = i then ret ds else stuck))) := pe_imp (pe_insG ho hgd (hr.mono hjk) tY ha ht he hpl) fun _ _ _ => den_ins T
/-! ### C.f, a constant of the class -/
theorem xcattr {C : Addr} {mc : Value} {c : Str} {v : Int} {u : Value} (hm : X.mg c = some (.ref C)) (r : CRead X.K C mc) (kv : CVal X.K C mc f (.int v) u) (hg : Gl X c := by rfl) (hd : (c == ("__debug__" : Str)) = false := by decide) (hb : attributeBase (.Name c p) f X.env (eval (.Name c p) X.env) = eval (.Name c p) X.env := by rfl) :
    PE X (.Attribute (.Name c p) f pos) (den X.K Y (ret (.int v))) := pe_imp (pe_cval (pe_glob hg hm (show RelV (.ref C) (.ref C) from rfl) hd) hb) fun σ H Q h => by
  obtain ⟨C0, W, s, at', p⟩ := h
  exact ⟨C, mc, .int v, u, rfl, r, kv, p W H (Vw.Le.refl _) at' _ (.int v)⟩
end
end Dn
/-! Tr1: a def's own handles are frozen and dropped when it ends. -/
namespace Dn
open PySem L2 PySem.Spec PyProof.Rows
mutual
/-- no handle from n on -/
def PV.cl (n : Nat) : PV → Prop
  | .hnd m => m < n
  | .tup xs => PV.cls n xs
  | .lst xs => PV.cls n xs
  | .obj _ _ vs => PV.cls n vs
  | .exn _ _ vs => PV.cls n vs
  | .dct _ vs => PV.cls n vs
  | .fn _ _ _ _ vs => PV.cls n vs
  | _ => True
def PV.cls (n : Nat) : List PV → Prop
  | [] => True
  | x :: xs => PV.cl n x ∧ PV.cls n xs
end
def MO.cl (n i : Nat) : MO → Prop
  | .dic kvs => PV.cls n (kvs.map (·.2))
  | .ins _ _ vs => i + 1 < n ∧ PV.cls n vs
  | .own m => m < n
  | .dtt kvs => PV.cls n (kvs.map (·.2))
  | .gone => True
mutual
/-- a def's own dict is a value behind it -/
def PV.frz (n : Nat) (st : List MO) : PV → PV
  | .hnd m => if n ≤ m then (match st[m]? with
    | some (.dic kvs) => .dct (kvs.map (·.1)) (kvs.map (·.2))
    | _ => .hnd m) else .hnd m
  | .tup xs => .tup (PV.frzs n st xs)
  | .lst xs => .lst (PV.frzs n st xs)
  | .obj c ks vs => .obj c ks (PV.frzs n st vs)
  | d => d
def PV.frzs (n : Nat) (st : List MO) : List PV → List PV
  | [] => []
  | x :: xs => PV.frz n st x :: PV.frzs n st xs
end
theorem frzs_len {n : Nat} {st : List MO} : ∀ {xs : List PV}, (PV.frzs n st xs).length = xs.length
  | [] => rfl
  | x :: xs => by rw [PV.frzs, List.length_cons, List.length_cons, frzs_len]
section
variable {K : PySem.W.Frag} {W W0 : Vw} {H H0 : Hp} {st st0 : List MO} {n : Nat} {a : Addr}
theorem ix_hs (hd : W.hs.Nodup) {m m' : Nat} {a : Addr} (p : W.hs[m]? = some a) (q : W.hs[m']? = some a) : m = m' := by
  obtain ⟨l1, y1⟩ := List.getElem?_eq_some_iff.mp p
  obtain ⟨l2, y2⟩ := List.getElem?_eq_some_iff.mp q
  exact (List.getElem_inj hd).mp (y1.trans y2.symm)
mutual
theorem Rep.cl (h : W.hs.length ≤ n) : ∀ {v : V} {d : PV}, Rep K W v d → d.cl n
  | _, _, .non => trivial
  | _, _, .bl _ => trivial
  | _, _, .int _ => trivial
  | _, _, .str _ => trivial
  | _, _, .tup _ r => by rw [PV.cl]; exact Reps.cl h r
  | _, _, .lst _ r => by rw [PV.cl]; exact Reps.cl h r
  | _, _, .scr _ => trivial
  | _, _, .hnd e => by
    rw [PV.cl]
    have := (List.getElem?_eq_some_iff.mp e).1
    omega
  | _, _, .obj _ _ _ _ r => by rw [PV.cl]; exact Reps.cl h r
  | _, _, .exn _ _ _ _ r => by rw [PV.cl]; exact Reps.cl h r
  | _, _, .dic _ => trivial
  | _, _, .dct _ _ r => by rw [PV.cl]; exact Reps.cl h r
  | _, _, .kt _ => trivial
  | _, _, .fn _ r => Reps.cl h r
theorem Reps.cl (h : W.hs.length ≤ n) : ∀ {vs : List V} {ds : List PV}, Reps K W vs ds → PV.cls n ds
  | _, _, .nil => trivial
  | _, _, .cons q r => ⟨Rep.cl h q, Reps.cl h r⟩
end
theorem KVs.clv {κ : Type} (h : W.hs.length ≤ n) : ∀ {vs : List (κ × V)} {ds : List (κ × PV)}, KVs K W vs ds → PV.cls n (ds.map (·.2))
  | _, _, .nil => trivial
  | _, _, .cons q r => ⟨q.cl h, KVs.clv h r⟩
theorem okk_cl (ok : Okk K W st H) {i : Nat} {mo : MO} (e : st[i]? = some mo) : mo.cl st.length i := by
  have hl := ok.len
  have hi : i < W.hs.length := by
    have := (List.getElem?_eq_some_iff.mp e).1
    omega
  rcases ok.hnd i _ (List.getElem?_eq_getElem hi) with ⟨_, mo', e', mr⟩ | ⟨_, e'⟩
  · rw [e] at e'
    cases e'
    cases mr with
    | dic _ k => exact k.clv (by omega)
    | dtt _ k => exact k.clv (by omega)
    | ins _ _ h1 h2 _ r =>
      refine ⟨?_, r.cl (by omega)⟩
      have h3 := ix_hs ok.nd h1 (List.getElem?_eq_getElem hi)
      have h4 := (List.getElem?_eq_some_iff.mp h2).1
      omega
    | own h1 _ =>
      have := (List.getElem?_eq_some_iff.mp h1).1
      show _ < _
      omega
  · rw [e] at e'
    cases e'
    trivial
/-! ### locking for good -/
def lckL : List Addr → VK → VK
  | [], Q => Q
  | d :: S, Q => fun v H => ∃ u, H d = some u ∧ Mut (some u) ∧ ∀ od, lckL S Q v (upd H d (.frz od u))
/-- Q, some dicts locked for good -/
def lckQ (Q : VK) : VK := fun v H => ∃ S, lckL S Q v H
theorem lckL_of : ∀ {S : List Addr} {H : Hp} {Q : VK} {v : V}, S.Nodup → (∀ a ∈ S, ∃ u, H a = some u ∧ Mut (some u)) →
    (∀ H' : Hp, (∀ a ∈ S, ∀ u, H a = some u → ∃ o, H' a = some (.frz o u)) → (∀ a, a ∉ S → H' a = H a) → Q v H') → lckL S Q v H
  | [], H, Q, v, _, _, q => q H (fun a h => nomatch h) fun a _ => rfl
  | d :: S, H, Q, v, nd, h, q => by
    obtain ⟨u, e, mu⟩ := h d List.mem_cons_self
    rw [List.nodup_cons] at nd
    refine ⟨u, e, mu, fun od => lckL_of nd.2 (fun a ha => ?_) fun H' h1 h2 => q H' (fun a ha w ew => ?_) fun a ha => ?_⟩
    · have hne : a ≠ d := fun z => nd.1 (z ▸ ha)
      rw [upd_ne hne]
      exact h a (List.mem_cons_of_mem _ ha)
    · rcases List.mem_cons.mp ha with rfl | ha
      · rw [e] at ew
        cases ew
        exact ⟨od, (h2 _ nd.1).trans upd_same⟩
      · have hne : a ≠ d := fun z => nd.1 (z ▸ ha)
        exact h1 a ha w (by rw [upd_ne hne]; exact ew)
    · have hne : a ≠ d := fun z => ha (by rw [z]; exact List.mem_cons_self)
      rw [h2 a fun z => ha (List.mem_cons_of_mem _ z), upd_ne hne]
theorem mut_there {P : Program} {w : World} {H : Hp} {h : Heap} {d : Addr} {u : HO} (x : ObjOk P w H h d u) (mu : Mut (some u)) : ∃ od, h.get? d = some od := by
  cases u with
  | lst xs => obtain ⟨_, _, _, _, e⟩ := x; exact ⟨_, e⟩
  | dK kvs => obtain ⟨_, _, _, _, o, _, _, e, _⟩ := x; exact ⟨o, e⟩
  | dT kvs => obtain ⟨_, _, _, _, o, _, _, e, _⟩ := x; exact ⟨o, e⟩
  | set S n => obtain ⟨o, _, _, _, e, _⟩ := x; exact ⟨o, e⟩
  | ins C dx fs => obtain ⟨_, _, _, e, _⟩ := x; exact ⟨_, e⟩
  | ext φ => obtain ⟨_, ⟨_, e⟩, _⟩ := x; exact ⟨_, e⟩
  | _ => exact False.elim mu
theorem hok_lock {P : Program} {w : World} {H : Hp} {h : Heap} {d : Addr} {u : HO} (ok : HOk P w H h) (e : H d = some u) (mu : Mut (some u)) : ∃ od, HOk P w (upd H d (.frz od u)) h := by
  obtain ⟨od, ho⟩ := mut_there (ok d u e) mu
  have no : ∀ {b : Addr} {x : HO}, H b = some x → ¬ Mut (some x) → b ≠ d := fun {b x} q n z => by
    subst z
    rw [e] at q
    cases q
    exact n mu
  have stay : ∀ {b : Addr} {x : HO}, ObjOk P w H h b x → ObjOk P w (upd H d (.frz od u)) h b x := fun {b x} q =>
    q.stay (fun _ _ _ z => z) (fun c z => by rw [upd_ne (no z fun q => q)]; exact z) fun c xs z => by rw [upd_ne (no z fun q => q)]; exact z
  refine ⟨od, fun b x q => ?_⟩
  by_cases hb : b = d
  · subst hb
    rw [upd_same] at q
    cases q
    exact ⟨ho, stay (ok b u e)⟩
  · rw [upd_ne hb] at q
    exact stay (ok b x q)
theorem ce_lock {P : Program} {w : World} {outer : List PySem.Env} {H : Hp} {s : Shared} {u : Value} {s' : Shared} {v : V} {Q : VK} : ∀ {S : List Addr} {H' : Hp}, s'.os = s.os → AllBare s'.gens → Un (frs outer) [] H H' s.heap s'.heap → HOk P w H' s'.heap → RelV v u → lckL S Q v H' → CE outer P w H s Q u s'
  | [], H', os, b, un, ok, r, q => ⟨v, H', os, b, un, ok, r, q⟩
  | d :: S, H', os, bare, un, ok, r, q => by
    obtain ⟨o, e, mu, q⟩ := q
    obtain ⟨od, ok2⟩ := hok_lock ok e mu
    have no : ∀ {b : Addr} {x : HO}, H' b = some x → ¬ Mut (some x) → b ≠ d := fun {b x} y n z => by
      subst z
      rw [e] at y
      cases y
      exact n mu
    refine ce_lock os bare ⟨un.keep, un.slot, fun c o1 e1 e2 e3 => ?_, un.there, fun c xs e1 => ?_, fun c o1 u1 e1 => ?_, fun c ps e1 => ?_⟩ ok2 r (q od)
    · have z := un.free c o1 e1 e2 e3
      rw [upd_ne (fun y => by rw [y, e] at z; cases z)]
      exact z
    · have z := un.tups c xs e1
      rw [upd_ne (no z fun q => q)]
      exact z
    · have z := un.frzs c o1 u1 e1
      rw [upd_ne (no z fun q => q)]
      exact z
    · obtain ⟨more, z⟩ := un.tbls c ps e1
      exact ⟨more, by rw [upd_ne (no z fun q => q)]; exact z⟩
theorem FnG.lck {P : Program} {w : World} {K : PySem.W.Frag} {mg : Str → Option Value} {base : Heap} {CX : CXT} {k : Nat} {f : Addr} {fd : FuncData} {ps : List Str} {sp : Sp} (F : FnG P w K mg base CX k f fd ps sp) : FnG P w K mg base CX k f fd ps (fun vs H Q E => sp vs H (lckQ Q) E) := by
  refine ⟨fun vs H Q E q => F.len vs H _ E q, fun A outer s H args us vs Q E hgd hr e0 hb r q => codeAny_mono (F.run A outer s H args us vs _ E hgd hr e0 hb r q) fun res s' hq => ?_⟩
  cases res with
  | error e => exact hq
  | ok fl =>
    cases fl with
    | next => exact hq
    | brk => exact hq
    | cont => exact hq
    | ret u =>
      obtain ⟨v, H', os, b, un, ok, rv, S, q⟩ := hq
      exact ce_lock os b un ok rv q
/-- the view behind a def: its own handles frozen -/
noncomputable def Vw.cut (W : Vw) (n : Nat) (H : Hp) : Vw := ⟨fun a => open Classical in if a ∈ W.hs.drop n ∧ W.F a = none then H a else W.F a, W.hs.take n⟩
theorem cut_F (h : W.F a ≠ none) : (W.cut n H).F a = W.F a := by
  show (if _ then _ else _) = _
  rw [if_neg (fun z => h z.2)]
theorem cut_out (h : a ∉ W.hs.drop n) : (W.cut n H).F a = W.F a := by
  show (if _ then _ else _) = _
  rw [if_neg (fun z => h z.1)]
theorem cut_in (h : a ∈ W.hs.drop n) (hF : W.F a = none) : (W.cut n H).F a = H a := by
  show (if _ then _ else _) = _
  rw [if_pos ⟨h, hF⟩]
theorem mem_drop {l : List Addr} {m : Nat} (h : l[m]? = some a) (hn : n ≤ m) : a ∈ l.drop n := by
  have e : (l.drop n)[m - n]? = some a := by
    rw [List.getElem?_drop, show n + (m - n) = m by omega]
    exact h
  exact List.mem_of_getElem? e
theorem nmem_drop {l : List Addr} (hd : l.Nodup) {m : Nat} (h : l[m]? = some a) (hn : m < n) : a ∉ l.drop n := fun hm => by
  obtain ⟨j, hj⟩ := List.getElem?_of_mem hm
  rw [List.getElem?_drop] at hj
  obtain ⟨l1, y1⟩ := List.getElem?_eq_some_iff.mp h
  obtain ⟨l2, y2⟩ := List.getElem?_eq_some_iff.mp hj
  have := (List.getElem_inj hd).mp (y1.trans y2.symm)
  omega
theorem take_get {l : List Addr} {m : Nat} (hm : m < n) : (l.take n)[m]? = l[m]? := by
  rw [List.getElem?_take, if_pos hm]
theorem cut_same (W : Vw) (n : Nat) (H : Hp) : Same W.F (W.cut n H).F := fun b u e => by
  rw [cut_F (by rw [e]; exact fun z => nomatch z)]
  exact e
mutual
theorem Rep.cutV : ∀ {v : V} {d : PV}, Rep K W v d → d.cl n → Rep K (W.cut n H) v d
  | _, _, .non, _ => .non
  | _, _, .bl b, _ => .bl b
  | _, _, .int i, _ => .int i
  | _, _, .str x, _ => .str x
  | _, _, .tup h r, c => .tup (same_t (cut_same W n H) h) (Reps.cutV r (by rw [PV.cl] at c; exact c))
  | _, _, .lst h r, c => .lst (cut_same W n H _ _ h) (Reps.cutV r (by rw [PV.cl] at c; exact c))
  | _, _, .scr h, _ => .scr ((cut_same W n H).seq h)
  | _, _, .hnd h, c => .hnd (by
    rw [PV.cl] at c
    exact (take_get c).trans h)
  | _, _, .obj c h d n r, q => .obj c (cut_same W _ H _ _ h) (cut_same W _ H _ _ d) n (Reps.cutV r (by rw [PV.cl] at q; exact q))
  | _, _, .exn c h d n r, q => .exn c (cut_same W _ H _ _ h) (cut_same W _ H _ _ d) n (Reps.cutV r (by rw [PV.cl] at q; exact q))
  | _, _, .dic h, _ => .dic (cut_same W n H _ _ h)
  | _, _, .dct h n r, q => .dct (cut_same W _ H _ _ h) n (Reps.cutV r (by rw [PV.cl] at q; exact q))
  | _, _, .kt h, _ => .kt (cut_same W n H _ _ h)
  | _, _, .fn h r, c => .fn (cut_same W n H _ _ h) (Reps.cutV r c)
theorem Reps.cutV : ∀ {vs : List V} {ds : List PV}, Reps K W vs ds → PV.cls n ds → Reps K (W.cut n H) vs ds
  | _, _, .nil, _ => .nil
  | _, _, .cons h r, c => .cons (Rep.cutV h c.1) (Reps.cutV r c.2)
end
theorem KVs.cutV {κ : Type} : ∀ {vs : List (κ × V)} {ds : List (κ × PV)}, KVs K W vs ds → PV.cls n (ds.map (·.2)) → KVs K (W.cut n H) vs ds
  | _, _, .nil, _ => .nil
  | _, _, .cons h r, c => .cons (h.cutV c.1) (KVs.cutV r c.2)
theorem KVs.zip : ∀ {vs : List (Key × V)} {ds : List (Key × PV)}, KVs K W vs ds → vs = (ds.map (·.1)).zip (vs.map (·.2)) ∧ Reps K W (vs.map (·.2)) (ds.map (·.2))
  | _, _, .nil => ⟨rfl, .nil⟩
  | _, _, .cons (k := k) (v := v) (d := d) (r := r) (s := s) h t => by
    obtain ⟨e, q⟩ := KVs.zip t
    refine ⟨?_, .cons h q⟩
    rw [List.map_cons, List.map_cons, List.zip_cons_cons, ← e]
/-- H' is H with own dicts locked -/
structure Lkd (W : Vw) (st : List MO) (n : Nat) (H H' : Hp) : Prop where
  out : ∀ a, (a ∈ W.hs.drop n → W.F a ≠ none) → H' a = H a
  dic : ∀ m a kvs, n ≤ m → W.hs[m]? = some a → st[m]? = some (.dic kvs) → ∀ u, H a = some u → ∃ o, H' a = some (.frz o u)
mutual
theorem Rep.frz {HL : Hp} (ok : Okk K W st H) (lk : Lkd W st n H HL) : ∀ {v : V} {d : PV}, Rep K W v d → (d.frz n st).cl n → Rep K (W.cut n HL) v (d.frz n st)
  | _, _, .non, _ => .non
  | _, _, .bl b, _ => .bl b
  | _, _, .int i, _ => .int i
  | _, _, .str x, _ => .str x
  | _, _, .tup h r, c => by
    rw [PV.frz] at c ⊢
    rw [PV.cl] at c
    exact .tup (same_t (cut_same W n HL) h) (Reps.frz ok lk r c)
  | _, _, .lst h r, c => by
    rw [PV.frz] at c ⊢
    rw [PV.cl] at c
    exact .lst (cut_same W n HL _ _ h) (Reps.frz ok lk r c)
  | _, _, .scr h, _ => .scr ((cut_same W n HL).seq h)
  | _, .hnd m, .hnd h, c => by
    rw [PV.frz] at c ⊢
    split at c
    · rename_i hn
      rw [if_pos hn]
      split at c
      · rename_i kvs hs
        obtain ⟨f, mr⟩ := ok.live h hs (fun z => nomatch z)
        cases mr with
        | dic hH kv =>
          have e := cut_in (H := HL) (mem_drop h hn) f
          obtain ⟨o, eo⟩ := lk.dic m _ _ hn h hs _ hH
          rw [PV.cl] at c
          obtain ⟨z1, z2⟩ := kv.zip
          refine .dct (o := o) (us := _) ?_ (by rw [List.length_map, List.length_map]) (Reps.cutV z2 c)
          rw [e, eo]
          exact congrArg (fun z => some (HO.frz o (HO.dK z))) z1
      · rw [PV.cl] at c
        omega
    · rename_i hn
      rw [if_neg hn]
      exact Rep.cutV (.hnd h) c
  | _, _, .obj c h d n r, q => by
    rw [PV.frz] at q ⊢
    rw [PV.cl] at q
    exact .obj c (cut_same W _ HL _ _ h) (cut_same W _ HL _ _ d) (by rw [frzs_len]; exact n) (Reps.frz ok lk r q)
  | _, _, .exn c h d n r, q => Rep.cutV (.exn c h d n r) q
  | _, _, .dic h, _ => .dic (cut_same W n HL _ _ h)
  | _, _, .dct h n r, q => Rep.cutV (.dct h n r) q
  | _, _, .kt h, _ => .kt (cut_same W n HL _ _ h)
  | _, _, .fn h r, q => Rep.cutV (.fn h r) q
theorem Reps.frz {HL : Hp} (ok : Okk K W st H) (lk : Lkd W st n H HL) : ∀ {vs : List V} {ds : List PV}, Reps K W vs ds → PV.cls n (PV.frzs n st ds) → Reps K (W.cut n HL) vs (PV.frzs n st ds)
  | _, _, .nil, _ => .nil
  | _, _, .cons h r, c => .cons (Rep.frz ok lk h c.1) (Reps.frz ok lk r c.2)
end
/-- what stood before, and still stands or names nothing new -/
def Shut (st0 st : List MO) : Prop := ∀ i mo, i < st0.length → st[i]? = some mo → st0[i]? = some mo ∨ mo.cl st0.length i
/-- the Okk part -/
theorem cut_okk {HL : Hp} {n : Nat} (ok0 : Okk K W0 st0 H0) (hn : st0.length = n) (hle : W0.hs.length ≤ W.hs.length) (ok : Okk K W st H) (hc : Shut st0 st) (lk : Lkd W st n H HL) : Okk K (W.cut n HL) (st.take n) HL := by
  subst hn
  have len0 := ok0.len
  have len1 := ok.len
  refine ⟨fun b u e => ?_, fun i b e => ?_, ?_, ?_, ok.tab.up (fun b o e => cut_same W st0.length HL b o e) fun P ps e f => ?_⟩
  rotate_right
  · have hm : P ∉ W.hs.drop st0.length := fun z => by
      obtain ⟨j, hj⟩ := List.getElem?_of_mem (List.mem_of_mem_drop z)
      exact ok.no_tbl hj f ps e
    exact ⟨(cut_out hm).trans f, (lk.out P fun z => absurd z hm).trans e⟩
  · have e : (W.cut st0.length HL).F b = some u := e
    by_cases hm : b ∈ W.hs.drop st0.length ∧ W.F b = none
    · rw [cut_in hm.1 hm.2] at e
      exact e
    · unfold Vw.cut at e
      dsimp only at e
      rw [if_neg hm] at e
      rw [lk.out b fun z y => hm ⟨z, y⟩]
      exact ok.sub b u e
  · have hi : i < st0.length := by
      have h1 := (List.getElem?_eq_some_iff.mp e).1
      have h2 : (W.cut st0.length HL).hs.length = (W.hs.take st0.length).length := rfl
      rw [h2, List.length_take] at h1
      omega
    have e1 : W.hs[i]? = some b := (take_get hi).symm.trans e
    have nd := nmem_drop ok.nd e1 hi
    have eF := cut_out (H := HL) nd
    have eH : HL b = H b := lk.out b fun z => absurd z nd
    have eS : (st.take st0.length)[i]? = st[i]? := by rw [List.getElem?_take, if_pos hi]
    rcases ok.hnd i b e1 with ⟨g1, mo, g2, g3⟩ | ⟨g1, g2⟩
    · refine .inl ⟨eF.trans g1, mo, eS.trans g2, MRep.at ?_ eH⟩
      have c : mo.cl st0.length i := by
        rcases hc i mo hi g2 with z | z
        · exact okk_cl ok0 z
        · exact z
      cases g3 with
      | dic h k => exact .dic h (k.cutV c)
      | dtt h k => exact .dtt h (k.cutV c)
      | ins h1 h2 h3 h4 h5 r =>
        have e3 := ix_hs ok.nd h3 e1
        subst e3
        exact .ins h1 h2 e ((take_get c.1).trans h4) h5 (r.cutV c.2)
      | own h1 h2 => exact .own ((take_get c).trans h1) h2
    · exact .inr ⟨by rw [eF]; exact g1, eS.trans g2⟩
  · exact ok.nd.sublist (List.take_sublist _ _)
  · show (st.take _).length = (W.hs.take _).length
    rw [List.length_take, List.length_take, len1]
theorem le_hs (l : W0.Le W) : W0.hs.length ≤ W.hs.length := by
  rcases Nat.lt_or_ge W.hs.length W0.hs.length with z | z
  · have := l.pre W.hs.length _ (List.getElem?_eq_getElem z)
    rw [List.getElem?_eq_none (Nat.le_refl _)] at this
    cases this
  · exact z
theorem cut_ok {HL : Hp} (ok0 : Okk K W0 st0 H0) (l : W0.Le W) (ok : Okk K W st H) (g : Grow W0 W H0 H) (hc : Shut st0 st) (lk : Lkd W st st0.length H HL) :
    W0.Le (W.cut st0.length HL) ∧ Okk K (W.cut st0.length HL) (st.take st0.length) HL ∧ Grow W0 (W.cut st0.length HL) H0 HL := by
  have len0 := ok0.len
  have out : ∀ {b : Addr}, H0 b ≠ none → b ∉ W.hs.drop st0.length := fun {b} hb hm => by
    obtain ⟨g1, g2⟩ := g.gro b hb
    obtain ⟨i, hi⟩ := List.getElem?_of_mem (g2 (List.mem_of_mem_drop hm))
    have h1 := (List.getElem?_eq_some_iff.mp hi).1
    exact nmem_drop ok.nd (l.pre i b hi) (show i < st0.length by omega) hm
  refine ⟨⟨fun b u e => cut_same W _ HL b u (l.ex b u e), fun i b e => ?_⟩, cut_okk ok0 rfl (le_hs l) ok hc lk, ⟨fun b o e hb => ?_, fun b hb => ?_⟩⟩
  · have := (List.getElem?_eq_some_iff.mp e).1
    exact (take_get (by omega)).trans (l.pre i b e)
  · rw [lk.out b fun z => absurd z (out (by rw [e]; exact fun q => nomatch q))]
    exact g.keep b o e hb
  · obtain ⟨g1, g2⟩ := g.gro b hb
    refine ⟨?_, fun hm => g2 (List.mem_of_mem_take hm)⟩
    rw [← g1]
    exact cut_out (out hb)
/-- the live dicts from n on -/
theorem lkd_all {n : Nat} {Q : VK} {v : V} (ok : Okk K W st H) (q : ∀ HL, Lkd W st n H HL → Q v HL) : lckQ Q v H := by
  have hS : ∃ S : List Addr, S.Nodup ∧ ∀ a, a ∈ S ↔ ∃ m kvs, n ≤ m ∧ W.hs[m]? = some a ∧ st[m]? = some (.dic kvs) := by
    open Classical in
    refine ⟨W.hs.filter fun a => decide (∃ m kvs, n ≤ m ∧ W.hs[m]? = some a ∧ st[m]? = some (.dic kvs)), ok.nd.sublist List.filter_sublist, fun a => ?_⟩
    rw [List.mem_filter]
    constructor
    · exact fun h => of_decide_eq_true h.2
    · rintro ⟨m, kvs, h1, h2, h3⟩
      exact ⟨List.mem_of_getElem? h2, decide_eq_true ⟨m, kvs, h1, h2, h3⟩⟩
  obtain ⟨S, nd, hS⟩ := hS
  refine ⟨S, lckL_of nd (fun a ha => ?_) fun HL h1 h2 => q HL ⟨fun a ha => ?_, fun m a kvs hm e1 e2 u e => h1 a ((hS a).mpr ⟨m, kvs, hm, e1, e2⟩) u e⟩⟩
  · obtain ⟨m, kvs, _, e1, e2⟩ := (hS a).mp ha
    cases (ok.live e1 e2 (fun z => nomatch z)).2 with
    | dic hH _ => exact ⟨_, hH, trivial⟩
  · refine h2 a fun z => ?_
    obtain ⟨m, kvs, hm, e1, e2⟩ := (hS a).mp z
    exact ha (mem_drop e1 hm) (ok.live e1 e2 (fun z => nomatch z)).1
end
/-- how a def ends -/
noncomputable def fin (st0 st : List MO) (d : PV) : PV × List MO := open Classical in
  if st.length ≤ st0.length then (d, st) else if (d.frz st0.length st).cl st0.length ∧ Shut st0 st then (d.frz st0.length st, st.take st0.length) else (d, st)
noncomputable def finR (st0 : List MO) : RR → RR
  | .ok d st => .ok (fin st0 st d).1 (fin st0 st d).2
  | r => r
noncomputable def fnT (np nn : Nat) (body : Nat → M Fl) : Fn := fun n ds st => finR st (fnM np nn body n ds st)
theorem lckQ_no {Q : VK} {v : V} {H : Hp} (h : Q v H) : lckQ Q v H := ⟨[], h⟩
theorem spM_fin {K : PySem.W.Frag} {np : Nat} {m : Fn} {vs : List V} {H : Hp} {Q : VK} {E : XK} (h : spM K np (fun n ds st => finR st (m n ds st)) vs H Q E) : spM K np m vs H (lckQ Q) E := by
  obtain ⟨hl, n, W, st, ds, ok, r, p⟩ := h
  refine ⟨hl, n, W, st, ds, ok, r, ?_⟩
  dsimp only at p
  cases e : m n ds st with
  | stk => rw [e] at p; exact p.elim
  | exc x st' => rw [e] at p; exact p
  | ok d st' =>
    rw [e] at p
    intro v W' H' l ok' g rv
    have p : SpPost K W H Q E (.ok (fin st st' d).1 (fin st st' d).2) := p
    unfold fin at p
    split at p
    · exact lckQ_no (p v W' H' l ok' g rv)
    · split at p
      · rename_i hc
        refine lkd_all (n := st.length) ok' fun HL lk => ?_
        obtain ⟨l2, ok2, g2⟩ := cut_ok ok l ok' g hc.2 lk
        exact p v _ HL l2 ok2 g2 (rv.frz ok' lk hc.1)
      · exact lckQ_no (p v W' H' l ok' g rv)
theorem FnG.sp {P : Program} {w : World} {K : PySem.W.Frag} {mg : Str → Option Value} {base : Heap} {CX : CXT} {k : Nat} {f : Addr} {fd : FuncData} {ps : List Str} {sp sp' : Sp} (F : FnG P w K mg base CX k f fd ps sp) (h : ∀ vs H Q E, sp' vs H Q E → sp vs H Q E) : FnG P w K mg base CX k f fd ps sp' :=
  ⟨fun vs H Q E q => F.len vs H Q E (h _ _ _ _ q), fun A outer s H args us vs Q E hgd hr e0 hb r q => F.run A outer s H args us vs Q E hgd hr e0 hb r (h _ _ _ _ q)⟩
theorem FnG.fin {P : Program} {w : World} {K : PySem.W.Frag} {mg : Str → Option Value} {base : Heap} {CX : CXT} {k np nn i : Nat} {f : Addr} {fd : FuncData} {ps : List Str} {body : Nat → M Fl} (F : FnG P w K mg base CX k f fd ps (spM K i (fnM np nn body))) : FnG P w K mg base CX k f fd ps (spM K i (fnT np nn body)) :=
  F.lck.sp fun _ _ _ _ h => spM_fin h
/-- a def's computation: as it is (false), or with its own handles dropped (true) -/
noncomputable def fnQ (b : Bool) (np nn : Nat) (body : Nat → M Fl) : Fn := match b with
  | true => fnT np nn body
  | false => fnM np nn body
theorem fnT_len {np nn n : Nat} {body : Nat → M Fl} {ds : List PV} {st : List MO} (h : fnT np nn body n ds st ≠ .stk) : ds.length = np := by
  refine fnM_len (nn := nn) (body := body) (n := n) (st := st) fun z => h ?_
  unfold fnT
  rw [z]
  rfl
theorem fnQ_len {b : Bool} {np nn n : Nat} {body : Nat → M Fl} {ds : List PV} {st : List MO} (h : fnQ b np nn body n ds st ≠ .stk) : ds.length = np := by
  cases b with
  | true => exact fnT_len h
  | false => exact fnM_len h
end Dn
/-! Fx: what a printed text is told of the module: defs, methods, classes, each in one row. -/
namespace Dn
open PySem L2 ClX StX NdefX PySem.Spec PyProof.Rows
theorem look_cons {α : Type} {a c : Str} {x y : α} {r : List (Str × α)} (h : ((a, x) :: r).lookup c = some y) : (c = a ∧ y = x) ∨ r.lookup c = some y := by
  rw [List.lookup] at h
  split at h
  · rename_i e
    exact .inl ⟨beq_iff_eq.mp e, (Option.some.inj h).symm⟩
  · exact .inr h
/-- a def of the module, called by place -/
def FnP (K : PySem.W.Frag) (mg : Str → Option Value) (x : Str) (st : Stmt) (ps : List Str) : Prop := ∃ f fd, mg x = some (.ref f) ∧ Fun K x x st f fd ∧ Binds K fd ps []
/-- .. called with keywords -/
def FnKP (K : PySem.W.Frag) (mg : Str → Option Value) (x : Str) (st : Stmt) (ps : List Str) (n : Nat) (ks : List Str) : Prop := ∃ f fd, mg x = some (.ref f) ∧ Fun K x x st f fd ∧ KB K fd ps n ks
/-- a method of the class c (its own or one from above), called so -/
def MthP (K : PySem.W.Frag) (c m qual : Str) (st : Stmt) (ps : List Str) (n : Nat) (ks : List Str) : Prop := ∃ C g fd, ClsAt K c C ∧ Cls K C ∧ Meth K C m g ∧ Fun K m qual st g fd ∧ KB K fd ps n ks
/-- what a def with super() needs: its class at D -/
structure SupF (P : Program) (K : PySem.W.Frag) (mg : Str → Option Value) (f cc cda D : Addr) (slf : Str) : Prop where
  sup : mg "super" = none
  fn : ∃ (oc : Value) (od : Option Addr) (fd : FuncData) (osl : Array (Option Value)) (ar : Arg), K.lookup f = some ⟨oc, od, .func fd, osl⟩ ∧ (fd.params.posonlyargs ++ fd.params.args).head? = some ar ∧ ar.arg = slf
  code : ∃ (oc : Value) (od : Option Addr) (vs : Array Value) (osl : Array (Option Value)) (file : Str) (tf : Tok), K.lookup cda = some ⟨oc, od, .fields vs, osl⟩ ∧ vs[2]? = some (.str file tf) ∧ ((P.main.file : Str) == file) = true
  top : (P.main.scope.names.lookup ("super" : Str)).isSome = false
  cell : ∃ (oc : Value) (od : Option Addr) (osl : Array (Option Value)), K.lookup cc = some ⟨oc, od, .cell (some (.ref D)), osl⟩
  cls : ∃ cd, PySem.W.clsIn K D = some cd
/-- a method with super() -/
def MthS (P : Program) (K : PySem.W.Frag) (mg : Str → Option Value) (c m qual dn : Str) (st : Stmt) (ps : List Str) (n : Nat) (ks : List Str) : Prop := ∃ C g fd cc cda D, ClsAt K c C ∧ Cls K C ∧ Meth K C m g ∧ FunS K m qual st g fd cc cda ∧ SupF P K mg g cc cda D "self" ∧ ClsAt K dn D ∧ KB K fd ps n ks
/-- a class called -/
def MkP (K : PySem.W.Frag) (mg : Str → Option Value) (c qual : Str) (st : Stmt) (ps : List Str) (n : Nat) (ks : List Str) : Prop := ∃ C f fd, ClsAt K c C ∧ mg c = some (.ref C) ∧ Mk K C f ∧ Fun K "__init__" qual st f fd ∧ KB K fd ps (n + 1) ks
def MkS (P : Program) (K : PySem.W.Frag) (mg : Str → Option Value) (c qual dn : Str) (st : Stmt) (ps : List Str) (n : Nat) (ks : List Str) : Prop := ∃ C f fd cc cda D, ClsAt K c C ∧ mg c = some (.ref C) ∧ Mk K C f ∧ FunS K "__init__" qual st f fd cc cda ∧ SupF P K mg f cc cda D "self" ∧ ClsAt K dn D ∧ KB K fd ps (n + 1) ks
/-- super().m of an instance of c, asked in the class dn -/
def SupP (K : PySem.W.Frag) (c dn m qual : Str) (st : Stmt) (ps : List Str) (n : Nat) (ks : List Str) : Prop := ∃ C D g fd, ClsAt K c C ∧ ClsAt K dn D ∧ SupC K C D m g ∧ Fun K m qual st g fd ∧ KB K fd ps n ks
/-- an instance of c called -/
def InsP (K : PySem.W.Frag) (c qual : Str) (st : Stmt) (ps : List Str) (n : Nat) : Prop := ∃ C g fd, ClsAt K c C ∧ CallO K C g ∧ Fun K "__call__" qual st g fd ∧ KB K fd ps n []
def IntP (mg : Str → Option Value) (x : Str) (i : Int) : Prop := ∃ t, mg x = some (.int i t)
def StrP (mg : Str → Option Value) (x y : Str) : Prop := ∃ t, mg x = some (.str y t)
/-- C.f, an int -/
def CatP (K : PySem.W.Frag) (mg : Str → Option Value) (c f : Str) (i : Int) : Prop := ∃ C mc u, mg c = some (.ref C) ∧ CRead K C mc ∧ CVal K C mc f (.int i) u
/-- an own exception class c over B, its field f -/
def ExcP (K : PySem.W.Frag) (mg : Str → Option Value) (c qual f v : Str) (st : Stmt) (B newId initId : String) (bm : List Value) : Prop := ∃ C fI fd, ClsAt K c C ∧ mg c = some (.ref C) ∧ OexB K C B newId initId bm ∧ PySem.W.findIn K (.ref C) "__init__" = some (some (.ref fI)) ∧ PySem.W.typeIn K (.ref fI) = some (.type "function") ∧
  PySem.W.findIn K (.ref C) f = some none ∧ Fun K "__init__" qual st fI fd ∧ Binds K fd ["self", v] [] ∧ PySem.W.findCls K (.type B) (.type "type") "__init__" = some (.val (.builtin initId))
theorem supX_of {P : Program} {w : World} {K : PySem.W.Frag} {mg : Str → Option Value} {base : Heap} {N : List Str} {x qual : Str} {st : Stmt} {cc cda f D : Addr} {A : Around} {outer : List PySem.Env} {s : Shared} {H : Hp} {E : XK} (S : SupF P K mg f cc cda D "self")
    (ks : (supX P w K mg base N x qual st cc cda f A outer s H E).env.kindOf "super" = some .globalImplicit) (kc : (supX P w K mg base N x qual st cc cda f A outer s H E).env.kindOf "__class__" = some .free) (sl : (supX P w K mg base N x qual st cc cda f A outer s H E).env.kindOf "self" = some .local) (n0 : N[0]? = some ("self" : Str)) :
    SupX (supX P w K mg base N x qual st cc cda f A outer s H E) "self" D := by
  obtain ⟨oc, od, fd, osl, ar, e1, e2, e3⟩ := S.fn
  obtain ⟨oc2, od2, vs, osl2, file, tf, c1, c2, c3⟩ := S.code
  obtain ⟨oc3, od3, osl3, d1⟩ := S.cell
  exact ⟨ks, kc, sl, n0, S.sup, ⟨f, oc, od, fd, osl, ar, rfl, e1, e2, e3⟩, ⟨cda, oc2, od2, vs, osl2, file, tf, rfl, c1, c2, c3⟩, S.top, ⟨cc, oc3, od3, osl3, rfl, d1⟩, S.cls⟩
/-- a statement that is never come to -/
theorem sstuck {Y : WX} {X : Cx} {st : Stmt} : PS X st (denS X.K Y stuck) := ⟨fun pins s σ H D I h => by
  obtain ⟨C, W, s, at', p⟩ := h
  exact p.elim⟩
end Dn
/-! Fy: from the rows of Fx to what a walk takes. -/
namespace Dn
open PySem L2 ClX StX NdefX PySem.Spec PyProof.Rows
section
variable {P : Program} {w : World} {K : PySem.W.Frag} {mg : Str → Option Value} {base : Heap} {k : Nat} {x qual c m f v dn : Str} {st : Stmt} {N ps ks : List Str} {n np : Nat} {nn : Nat} {body : Nat → M Fl} {bq : Bool}
abbrev bodyQ (P : Program) (w : World) (K : PySem.W.Frag) (mg : Str → Option Value) (base : Heap) (N : List Str) (qual : Str) (st : Stmt) (f : Addr) (cdv : Value) (A : Around) (outer : List PySem.Env) (s : Shared) (H : Hp) (E : XK) : Cx := cxOf (L2.CX P w) P w K mg base N qual (defScope st) f cdv A outer s H E
/-- a def's promise, its facts first -/
abbrev Pr (P : Program) (w : World) (K : PySem.W.Frag) (mg : Str → Option Value) (base : Heap) (k : Nat) (x qual : Str) (st : Stmt) (ps : List Str) (m : Fn) : Prop := ∀ f fd, Fun K x qual st f fd → FnG P w K mg base (L2.CX P w) k f fd ps (spM K ps.length m)
theorem pr_mk (S : FnScope N ps (defScope st)) (hN : ps.length ≤ N.length)
    (hbody : ∀ (f : Addr) (cdv : Value) (A : Around) (outer : List PySem.Env) (s : Shared) (H : Hp) (E : XK) (n : Nat), (A.deeper (envOfC qual (defScope st) s.heap.objs.size f cdv)).guards = some [] → Room k (A.deeper (envOfC qual (defScope st) s.heap.objs.size f cdv)) →
      Takes (bodyQ P w K mg base N qual st f cdv A outer s H E) (yE E) → PassesOwn (model P w) (bodyQ P w K mg base N qual st f cdv A outer s H E).A (bodyQ P w K mg base N qual st f cdv A outer s H E).env (bodyQ P w K mg base N qual st f cdv A outer s H E).xe →
      PSs (bodyQ P w K mg base N qual st f cdv A outer s H E) (defBody st) (denS K (yE E) (body n))) :
    Pr P w K mg base (k + 1) x qual st ps (fnM ps.length N.length body) := fun f fd F =>
  fn_den F S hN fun cdv A outer s H E n hgd hr tk => hbody f cdv A outer s H E n hgd hr tk (passes_of rfl)
/-- .. of a def with super() -/
abbrev PrS (P : Program) (w : World) (K : PySem.W.Frag) (mg : Str → Option Value) (base : Heap) (k : Nat) (x qual dn : Str) (st : Stmt) (ps : List Str) (m : Fn) : Prop := ∀ f fd cc cda D, FunS K x qual st f fd cc cda → SupF P K mg f cc cda D "self" → ClsAt K dn D → FnG P w K mg base (L2.CX P w) k f fd ps (spM K ps.length m)
theorem prs_mk (S : NScope N ps ["__class__"] (defScope st)) (hN : ps.length ≤ N.length)
    (hbody : ∀ (f cc cda D : Addr), SupF P K mg f cc cda D "self" → ClsAt K dn D → ∀ (A : Around) (outer : List PySem.Env) (s : Shared) (H : Hp) (E : XK) (n : Nat), (supX P w K mg base N x qual st cc cda f A outer s H E).A.guards = some [] → Room k (supX P w K mg base N x qual st cc cda f A outer s H E).A →
      Takes (supX P w K mg base N x qual st cc cda f A outer s H E) (yE E) → PassesOwn (model P w) (supX P w K mg base N x qual st cc cda f A outer s H E).A (supX P w K mg base N x qual st cc cda f A outer s H E).env (supX P w K mg base N x qual st cc cda f A outer s H E).xe →
      PSSA (supX P w K mg base N x qual st cc cda f A outer s H E) (defBody st) (defBody st) (denS K (yE E) (body n))) :
    PrS P w K mg base (k + 1) x qual dn st ps (fnM ps.length N.length body) := fun f fd cc cda D F S1 hc =>
  fn_denS F S hN (hbody f cc cda D S1 hc)
theorem prF (G : Pr P w K mg base k x qual st ps (fnM np nn body)) : Pr P w K mg base k x qual st ps (fnQ false np nn body) := G
theorem prsF (G : PrS P w K mg base k x qual dn st ps (fnM np nn body)) : PrS P w K mg base k x qual dn st ps (fnQ false np nn body) := G
theorem binds_of (hb : KB K fd ps n []) (e : ps.length = n) : Binds K fd ps [] := by
  intro s us X l
  have := hb.to s us [] X (by rw [List.append_nil] at l; omega) rfl
  simpa using this
/-- the rows, filled -/
theorem df_row (G : Pr P w K mg base k x x st ps (fnQ bq np nn body)) (Z : FnP K mg x st ps) (e : ps.length = np) : Df P w K mg base k x ps (fnQ bq np nn body) := by
  obtain ⟨f, fd, hm, F, hb⟩ := Z
  subst e
  exact ⟨⟨f, fd, G f fd F, hm, F.kp, hb⟩, fun n ds st h => fnQ_len h⟩
theorem ent_row (G : Pr P w K mg base k x qual st ps (fnQ bq np nn body)) {g : Addr} {fd : FuncData} (F : Fun K x qual st g fd) (hb : KB K fd ps n ks) (e : ps.length = np) : Ent P w K mg base k g np n ks (fnQ bq np nn body) := by
  subst e
  exact ⟨⟨fd, ps, rfl, G g fd F, hb⟩, fun n ds st h => fnQ_len h⟩
theorem entS_row (G : PrS P w K mg base k x qual dn st ps (fnQ bq np nn body)) {g : Addr} {fd : FuncData} {cc cda D : Addr} (F : FunS K x qual st g fd cc cda) (S : SupF P K mg g cc cda D "self") (hc : ClsAt K dn D) (hb : KB K fd ps n ks) (e : ps.length = np) : Ent P w K mg base k g np n ks (fnQ bq np nn body) := by
  subst e
  exact ⟨⟨fd, ps, rfl, G g fd cc cda D F S hc, hb⟩, fun n ds st h => fnQ_len h⟩
theorem dfk_row (G : Pr P w K mg base k x x st ps (fnQ bq np nn body)) (Z : FnKP K mg x st ps n ks) (e : ps.length = np) : DfK P w K mg base k x np n ks (fnQ bq np nn body) := by
  obtain ⟨f, fd, hm, F, hb⟩ := Z
  exact ⟨⟨f, hm, F.kp, ent_row G F hb e⟩⟩
/-- one row of a table of methods -/
abbrev MRow (P : Program) (w : World) (K : PySem.W.Frag) (mg : Str → Option Value) (base : Heap) (k : Nat) (m : Str) (np n : Nat) (ks : List Str) (c : Str) (mf : Fn) : Prop := ∃ C g, ClsAt K c C ∧ Cls K C ∧ Meth K C m g ∧ Ent P w K mg base k g np n ks mf
theorem mrow (G : Pr P w K mg base k m qual st ps (fnQ bq np nn body)) (Z : MthP K c m qual st ps n ks) {k' : Nat} (hk : k ≤ k') (e : ps.length = np) : MRow P w K mg base k' m np n ks c (fnQ bq np nn body) := by
  obtain ⟨C, g, fd, h1, h2, h3, F, hb⟩ := Z
  exact ⟨C, g, h1, h2, h3, FnG.up (ent_row G F hb e) hk⟩
theorem mrowS (G : PrS P w K mg base k m qual dn st ps (fnQ bq np nn body)) (Z : MthS P K mg c m qual dn st ps n ks) {k' : Nat} (hk : k ≤ k') (e : ps.length = np) : MRow P w K mg base k' m np n ks c (fnQ bq np nn body) := by
  obtain ⟨C, g, fd, cc, cda, D, h1, h2, h3, F, S, hc, hb⟩ := Z
  exact ⟨C, g, h1, h2, h3, FnG.up (entS_row G F S hc hb e) hk⟩
theorem tab0 : TabOk P w K mg base k m np n ks [] := ⟨fun c mf h => by cases h⟩
theorem tabC {mf : Fn} {tab : List (Str × Fn)} (h : MRow P w K mg base k m np n ks c mf) (t : TabOk P w K mg base k m np n ks tab) : TabOk P w K mg base k m np n ks ((c, mf) :: tab) := ⟨fun c' mf' l => by
  rcases look_cons l with ⟨rfl, rfl⟩ | l
  · exact h
  · exact t.ok _ _ l⟩
theorem mk_row (G : Pr P w K mg base k "__init__" qual st ps (fnQ bq np nn body)) (Z : MkP K mg c qual st ps n ks) (e : ps.length = np) : MkK P w K mg base k c np n ks (fnQ bq np nn body) := by
  obtain ⟨C, f, fd, h1, h2, h3, F, hb⟩ := Z
  exact ⟨⟨C, f, h1, h2, h3, ent_row G F hb e⟩⟩
theorem mkS_row (G : PrS P w K mg base k "__init__" qual dn st ps (fnQ bq np nn body)) (Z : MkS P K mg c qual dn st ps n ks) (e : ps.length = np) : MkK P w K mg base k c np n ks (fnQ bq np nn body) := by
  obtain ⟨C, f, fd, cc, cda, D, h1, h2, h3, F, S, hc, hb⟩ := Z
  exact ⟨⟨C, f, h1, h2, h3, entS_row G F S hc hb e⟩⟩
theorem ins0 : InsTab P w K mg base k np n [] := ⟨fun c mf h => by cases h⟩
theorem insC {tab : List (Str × Fn)} (G : Pr P w K mg base k "__call__" qual st ps (fnQ bq np nn body)) (Z : InsP K c qual st ps n) {k' : Nat} (hk : k ≤ k') (e : ps.length = np) (t : InsTab P w K mg base k' np n tab) : InsTab P w K mg base k' np n ((c, fnQ bq np nn body) :: tab) := ⟨fun c' mf' l => by
  rcases look_cons l with ⟨rfl, rfl⟩ | l
  · obtain ⟨C, g, fd, h1, h2, F, hb⟩ := Z
    exact ⟨C, g, h1, h2, FnG.up (ent_row G F hb e) hk⟩
  · exact t.ok _ _ l⟩
theorem sup0 {D : Addr} : SupTab P w K mg base k D m np n ks [] := ⟨fun c mf h => by cases h⟩
theorem supC {D : Addr} {tab : List (Str × Fn)} (hD : ClsAt K dn D) (G : Pr P w K mg base k m qual st ps (fnQ bq np nn body)) (Z : SupP K c dn m qual st ps n ks) {k' : Nat} (hk : k ≤ k') (e : ps.length = np) (t : SupTab P w K mg base k' D m np n ks tab) : SupTab P w K mg base k' D m np n ks ((c, fnQ bq np nn body) :: tab) := ⟨fun c' mf' l => by
  rcases look_cons l with ⟨rfl, rfl⟩ | l
  · obtain ⟨C, D2, g, fd, h1, h2, h3, F, hb⟩ := Z
    cases cls_uniq hD h2
    exact ⟨C, g, h1, h3, FnG.up (ent_row G F hb e) hk⟩
  · exact t.ok _ _ l⟩
theorem kbN {kV doc pm cdv ct : Value} {an : Option Addr}
    (h : ∀ (us ws : List Value), us.length = n → ws.length = ks.length → bindArgs (PySem.W.fnOf x qual (defArgs st) (defBody st) (defScope st) .none kV doc pm an cdv ct) ⟨us, ks.zip ws⟩ = pure (ps.zip (us ++ ws))) : KB K (PySem.W.fnOf x qual (defArgs st) (defBody st) (defScope st) .none kV doc pm an cdv ct) ps n ks :=
  ⟨fun s us ws X l1 l2 => .of_eq (h us ws l1 l2), fun r1 r2 => r1.append r2⟩
theorem kbX {cc : Addr} {kV doc pm cdv ct : Value} {an : Option Addr}
    (h : ∀ (us ws : List Value), us.length = n → ws.length = ks.length → bindArgs (PySem.W.fnX x qual (defArgs st) (defBody st) (defScope st) [("__class__", cc)] .none kV doc pm an cdv ct) ⟨us, ks.zip ws⟩ = pure (ps.zip (us ++ ws))) : KB K (PySem.W.fnX x qual (defArgs st) (defBody st) (defScope st) [("__class__", cc)] .none kV doc pm an cdv ct) ps n ks :=
  ⟨fun s us ws X l1 l2 => .of_eq (h us ws l1 l2), fun r1 r2 => r1.append r2⟩
theorem fld0 : FldOk K f [] := fun c h => by cases h
theorem fldC {C : Addr} {cs : List Str} (h1 : ClsAt K c C) (h2 : Cls K C) (h3 : NoAttr K C f) (t : FldOk K f cs) : FldOk K f (c :: cs) := fun c' h => by
  rcases List.mem_cons.mp h with rfl | h
  · exact ⟨C, h1, h2, h3⟩
  · exact t _ h
theorem con0 {i : Int} : ConOk K f i [] := fun c h => by cases h
theorem conC {C : Addr} {cs : List Str} {i : Int} {u : Value} (h1 : ClsAt K c C) (h2 : Cls K C) (h3 : Con K C f (.int i) u) (t : ConOk K f i cs) : ConOk K f i (c :: cs) := fun c' h => by
  rcases List.mem_cons.mp h with rfl | h
  · exact ⟨C, u, h1, h2, h3⟩
  · exact t _ h
/-- a property of the class c -/
def PrpP (K : PySem.W.Frag) (c m qual : Str) (st : Stmt) : Prop := ∃ C p g fd, ClsAt K c C ∧ Cls K C ∧ PropOf K C m p g ∧ Fun K m qual st g fd ∧ KB K fd ["self"] 1 []
theorem prp0 : PropTab P w K mg base k m [] := ⟨fun c mf h => by cases h⟩
theorem prpC {tab : List (Str × Fn)} (G : Pr P w K mg base k m qual st ["self"] (fnQ bq np nn body)) (Z : PrpP K c m qual st) {k' : Nat} (hk : k ≤ k') (e : 1 = np) (t : PropTab P w K mg base k' m tab) : PropTab P w K mg base k' m ((c, fnQ bq np nn body) :: tab) := ⟨fun c' mf' l => by
  rcases look_cons l with ⟨rfl, rfl⟩ | l
  · obtain ⟨C, p, g, fd, h1, h2, h3, F, hb⟩ := Z
    subst e
    exact ⟨C, h1, h2, p, g, h3, FnG.up (ent_row G F hb rfl) hk⟩
  · exact t.ok _ _ l⟩
end
end Dn
/-! Lm1: function values: what a made lambda is in the heap, what its call promises. -/
namespace Dn
open PySem L2 PySem.Spec PyProof.Rows
/-- a lambda's code: its name, its parameters, its body, its names, the captured names in order -/
structure LamB where
  q : Str
  params : Arguments
  body : Expr
  scope : Scope
  caps : List Str
  ps : List Str
  N : List Str
/-- its names: captured ones and globals, its parameters -/
structure LamOk (L : LamB) : Prop where
  kind : L.scope.kind = .function
  co : L.scope.isCoroutine = false
  gen : L.scope.isGenerator = false
  nocell : ∀ y ∈ L.scope.names, y.2 ≠ .cell
  nd : L.N.Nodup
  pre : L.N.take (L.caps ++ L.ps).length = L.caps ++ L.ps
  free : ∀ x ∈ L.caps, L.scope.names.lookup x = some .free
  par : ∀ x ∈ L.ps, L.scope.names.lookup x = some .local
  all : ∀ y ∈ L.scope.names, y.2 = .free → y.1 ∈ L.caps
  one : L.ps.length ≤ 1
  bind : ∀ (cl : List (Str × Addr)) (pm cv ctv : Value) (us : List Value), us.length = L.ps.length → bindArgs (PySem.W.kla_fn "<lambda>" L.q L.params L.body L.scope cl pm cv ctv) ⟨us, []⟩ = pure (L.ps.zip us)
/-- the function object at f, its cells holding us -/
structure ClAt (L : LamB) (fs : List Addr) (h : Heap) (H : Hp) (f c : Addr) (us : List V) : Prop where
  ex : ∃ (cl : List (Str × Addr)) (pm ct : Value), h.get? f = some (PySem.W.kla_obj "<lambda>" L.q L.params L.body L.scope cl pm c ct) ∧
    (∀ x y a, cl.lookup x = some a → cl.lookup y = some a → x = y) ∧
    (∀ x a, cl.lookup x = some a → H a = none ∧ a ∉ fs ∧ ∃ v, h.IsCell a v) ∧
    (∀ x ∈ L.caps, ∃ a, cl.lookup x = some a) ∧
    (∀ (i : Nat) (x : Str) (u : V), L.caps[i]? = some x → us[i]? = some u → ∃ (a : Addr) (w : Value), cl.lookup x = some a ∧ h.IsCell a (some w) ∧ RelV u w)
  f0 : H f = none
  fr : f ∉ fs
  len : us.length = L.caps.length
section
variable {L : LamB} {fs fs' ex : List Addr} {h h' : Heap} {H H' : Hp} {f c : Addr} {us : List V}
theorem ClAt.lt (a : ClAt L fs h H f c us) : f < h.objs.size := by
  obtain ⟨cl, pm, ct, e, _⟩ := a.ex
  exact Heap.lt_size e
/-- .. behind code that keeps what it does not know -/
theorem ClAt.un (a : ClAt L fs h H f c us) (u : Un fs [] H H' h h') : ClAt L fs h' H' f c us := by
  obtain ⟨cl, pm, ct, e, inj, cell, has, val⟩ := a.ex
  have kc : ∀ {x : Str} {b : Addr} {v : Option Value}, cl.lookup x = some b → h.IsCell b v → h'.IsCell b v := fun {x b v} hx ⟨o, ho, hd⟩ => ⟨o, u.keep b o ho (cell x b hx).1 (cell x b hx).2.1 (by simp), hd⟩
  refine ⟨⟨cl, pm, ct, u.keep f _ e a.f0 a.fr (by simp), inj, fun x b hx => ?_, has, fun i x w h1 h2 => ?_⟩, u.free f _ e a.f0 (by simp), a.fr, a.len⟩
  · obtain ⟨h1, h2, v, hv⟩ := cell x b hx
    obtain ⟨o, ho, hd⟩ := id hv
    exact ⟨u.free b o ho h1 (by simp), h2, v, kc hx hv⟩
  · obtain ⟨b, w', e1, e2, r⟩ := val i x w h1 h2
    exact ⟨b, w', e1, kc e1 e2, r⟩
/-- .. with a younger frame on the stack -/
theorem ClAt.push (a : ClAt L fs h H f c us) (hf : ∀ b ∈ fs', b ∈ fs ∨ h.objs.size ≤ b) : ClAt L fs' h H f c us := by
  obtain ⟨cl, pm, ct, e, inj, cell, has, val⟩ := a.ex
  refine ⟨⟨cl, pm, ct, e, inj, fun x b hx => ?_, has, val⟩, a.f0, fun z => ?_, a.len⟩
  · obtain ⟨h1, h2, v, hv⟩ := cell x b hx
    refine ⟨h1, fun z => ?_, v, hv⟩
    obtain ⟨o, ho, _⟩ := id hv
    rcases hf b z with z | z
    · exact h2 z
    · exact absurd (Nat.lt_of_lt_of_le (Heap.lt_size ho) z) (Nat.lt_irrefl _)
  · rcases hf f z with z | z
    · exact a.fr z
    · exact absurd (Nat.lt_of_lt_of_le (Heap.lt_size e) z) (Nat.lt_irrefl _)
end
/-- what a body that has the function value knows at its entry -/
structure ClX (X : Cx) (L : LamB) (f c : Addr) (us : List V) : Prop where
  ex : X.ex = []
  at_ : ClAt L X.fs X.s_0.heap X.H_0 f c us
theorem ClX.now {X : Cx} {L : LamB} {f c : Addr} {us : List V} {pins : List (Addr × Obj)} {σ : L2.St} {H : Hp} {s : Shared} (a : ClX X L f c us) (I : Inv X pins σ H s) : ClAt L (frs X.stack) s.heap H f c us := by
  have u := I.base
  rw [a.ex] at u
  have hlt := a.at_.lt
  have k := a.at_.un u
  have hs := I.ok.above
  obtain ⟨cl, pm, ct, e, inj, cell, has, val⟩ := a.at_.ex
  obtain ⟨cl', pm', ct', e', inj', cell', has', val'⟩ := k.ex
  have e2 := u.keep f _ e a.at_.f0 a.at_.fr (by simp)
  rw [e2] at e'
  cases e'
  refine ⟨⟨cl, pm, ct, e2, inj, fun x b hx => ?_, has, val'⟩, k.f0, fun z => ?_, k.len⟩
  · obtain ⟨h1, h2, v, hv⟩ := cell' x b hx
    refine ⟨h1, fun z => ?_, v, hv⟩
    rcases List.mem_cons.mp (I.stkSub b z) with z | z
    · obtain ⟨_, _, v0, o0, ho0, _⟩ := cell x b hx
      rw [z] at ho0
      exact absurd (Nat.lt_of_lt_of_le (Heap.lt_size ho0) hs) (Nat.lt_irrefl _)
    · exact h2 z
  · rcases List.mem_cons.mp (I.stkSub f z) with z | z
    · rw [z] at hlt
      exact absurd (Nat.lt_of_lt_of_le hlt hs) (Nat.lt_irrefl _)
    · exact k.fr z
theorem ClX.tr {X : Cx} {L : LamB} {f c : Addr} {us : List V} {pn : List (Addr × Obj)} {xe : Value → Shared → Prop} (a : ClX X L f c us) : ClX (X.tr pn xe) L f c us := ⟨a.ex, a.at_⟩
/-! ### the lambda's body runs -/
abbrev lmE (L : LamB) (l f c : Addr) (cl : List (Str × Addr)) : PySem.Env := PySem.W.envX L.q L.scope l f (.ref c) cl
abbrev lmX (P : Program) (w : World) (K : PySem.W.Frag) (mg : Str → Option Value) (base : Heap) (A : Around) (outer : List PySem.Env) (s : Shared) (H : Hp) (E : XK) (L : LamB) (f c : Addr) (cl : List (Str × Addr)) : Cx where
  prog := P
  w := w
  K := K
  mg := mg
  base := base
  A := A.deeper (lmE L s.heap.objs.size f c cl)
  N := L.N
  s_0 := s
  H_0 := H
  env := lmE L s.heap.objs.size f c cl
  outer := outer
  stack := lmE L s.heap.objs.size f c cl :: outer
  ex := []
  fn := fun _ => false
  calm := true
  pn := []
  xe := fun e s' => wpAny (model P w) (A.deeper (lmE L s.heap.objs.size f c cl)) (leaving (lmE L s.heap.objs.size f c cl) e) (fun _ s2 => L2.CX P w outer H s E e s2) (fun e2 s2 => L2.CX P w outer H s E e2 s2) s'
section
variable {P : Program} {w : World} {K : PySem.W.Frag} {mg : Str → Option Value} {base : Heap} {k : Nat} {L : LamB} {f c : Addr} {us vs : List V} {s : Shared} {H : Hp} {A : Around} {outer : List PySem.Env} {E : XK}
theorem rev1 {ps : List Str} {as : List Value} {x : Str} {i : Nat} {v : Value} (h : ps.length ≤ 1) (hx : ps[i]? = some x) (hv : as[i]? = some v) : (ps.zip as).reverse.lookup x = some v := by
  match ps, h with
  | [], _ => simp at hx
  | [p], _ =>
    cases i with
    | succ i => simp at hx
    | zero =>
      cases as with
      | nil => simp at hv
      | cons a as =>
        simp at hx hv
        subst hx hv
        simp [List.lookup]
theorem lm_start {as : List Value} {cl : List (Str × Addr)} {pm ct : Value} {h1 : Heap} {tk : Nat} (O : LamOk L) (e0 : Env0 P w K mg base A outer s H) (hd : A.handled = none)
    (inj : ∀ x y a, cl.lookup x = some a → cl.lookup y = some a → x = y) (cell : ∀ x a, cl.lookup x = some a → H a = none ∧ a ∉ frs outer ∧ ∃ v, s.heap.IsCell a v) (has : ∀ x ∈ L.caps, ∃ a, cl.lookup x = some a)
    (val : ∀ (i : Nat) (x : Str) (u : V), L.caps[i]? = some x → us[i]? = some u → ∃ (a : Addr) (w : Value), cl.lookup x = some a ∧ s.heap.IsCell a (some w) ∧ RelV u w) (lu : us.length = L.caps.length) (lv : vs.length = L.ps.length) (rv : Vals vs as)
    (hns : h1.Ns s.heap.objs.size fun y => (L.ps.zip as).reverse.lookup y) (kp : ∀ b o, s.heap.get? b = some o → h1.get? b = some o) :
    Inv (lmX P w K mg base A outer s H E L f c cl) [] (L2.start L.N (us ++ vs)) H { s with heap := h1, toks := tk } := by
  have noA : ∀ b : Addr, b ∉ (lmX P w K mg base A outer s H E L f c cl).ex := fun b z => nomatch z
  have cellK : ∀ {a : Addr} {v : Option Value}, s.heap.IsCell a v → h1.IsCell a v := fun {a v} ⟨o, ho, hd⟩ => ⟨o, kp _ _ ho, hd⟩
  have hpl : (L.caps ++ L.ps).length ≤ L.N.length := by
    have := congrArg List.length O.pre
    rw [List.length_take] at this
    omega
  have hNi : ∀ {i : Nat} {y : Str}, L.N[i]? = some y → i < (L.caps ++ L.ps).length → (L.caps ++ L.ps)[i]? = some y := fun {i y} e hi => by
    rw [← O.pre, List.getElem?_take, if_pos hi]
    exact e
  refine ⟨⟨e0.mod, O.kind, rfl, rfl, Nat.le_refl _, fun y z a e1 e2 => inj y z a e1 e2, fun y hy => ?_, fun y a z _ => (nomatch z), fun _ => hd, Around.frames_deeper e0.frames, .inr ⟨rfl, rfl⟩, fun b z => absurd z (noA b), e0.bs, e0.bsz, fun b _ _ => noA b,
      fun b z => absurd z (noA b), e0.funs, e0.frf⟩,
    rfl, e0.bare, Un.kept kp, ⟨_, hns, fun i y v e1 e2 e3 => ?_⟩, fun y a e => ?_, e0.hok.fresh (Nat.le_refl _), fun y a e => (cell y a e).1, fun q hq => (nomatch hq), e0.hok.kept kp, ?_⟩
  · have hy : L.scope.names.lookup y = some .cell ∨ L.scope.names.lookup y = some .free := hy
    rcases hy with hy | hy
    · exact absurd rfl (O.nocell _ (PySem.mem_of_lookup hy))
    · exact has y (O.all _ (PySem.mem_of_lookup hy) rfl)
  · have e1 : L.N[i]? = some y := e1
    unfold L2.start at e2
    by_cases hi : i < (us ++ vs).length
    · rw [List.getElem?_append_left (by rw [List.length_map]; exact hi), List.getElem?_map] at e2
      obtain ⟨v', hv', e2⟩ := Option.map_eq_some_iff.mp e2
      cases e2
      have hi2 : i < (L.caps ++ L.ps).length := by
        rw [List.length_append] at hi ⊢
        omega
      have hy := hNi e1 hi2
      by_cases hu : i < us.length
      · rw [List.getElem?_append_left hu] at hv'
        rw [List.getElem?_append_left (by omega)] at hy
        obtain ⟨a, w', a1, a2, r⟩ := val i y v hy hv'
        exact ⟨w', r, .inr ⟨.inr (O.free y (List.mem_of_getElem? hy)), a, a1, cellK a2⟩⟩
      · rw [List.getElem?_append_right (by omega)] at hv'
        rw [List.getElem?_append_right (by omega)] at hy
        rw [lu] at hv'
        obtain ⟨w', hw, r⟩ := Vals.get rv hv'
        refine ⟨w', r, .inl ⟨O.par y (List.mem_of_getElem? hy), rev1 O.one hy hw⟩⟩
    · rw [List.getElem?_append_right (by rw [List.length_map]; omega), List.getElem?_replicate] at e2
      split at e2 <;> cases e2
  · obtain ⟨_, _, v, hv⟩ := cell y a e
    exact ⟨v, cellK hv⟩
  · show (L2.start L.N (us ++ vs)).length = L.N.length
    unfold L2.start
    rw [List.length_append] at hpl
    rw [List.length_append, List.length_map, List.length_replicate, List.length_append]
    omega
/-- a function value's promise -/
def ClOk (P : Program) (w : World) (K : PySem.W.Frag) (mg : Str → Option Value) (base : Heap) (k : Nat) (L : LamB) (m : Fn) : Prop :=
  ∀ (f c : Addr) (A : Around) (outer : List PySem.Env) (s : Shared) (H : Hp) (as : List Value) (us vs : List V) (Q : VK) (E : XK), A.guards = some [] → Room k A → Env0 P w K mg base A outer s H → ClAt L (frs outer) s.heap H f c us → H c = some (LamX.CodeO c L.q) → Vals vs as → vs.length = L.ps.length →
    spM K (L.caps ++ L.ps).length m (us ++ vs) H Q E → codeAny (model P w) A (.call (.ref f) ⟨as, []⟩) (CR (L2.CX P w) outer P w H s Q E) s
theorem ClOk.mono {j : Nat} {m : Fn} (h : ClOk P w K mg base j L m) (hj : j ≤ k) : ClOk P w K mg base k L m := fun f c A outer s H as us vs Q E hg hr => h f c A outer s H as us vs Q E hg (hr.mono hj)
theorem cl_den {bE : Nat → M PV} (O : LamOk L)
    (hbody : ∀ (A : Around) (outer : List PySem.Env) (s : Shared) (H : Hp) (E : XK) (f c : Addr) (cl : List (Str × Addr)) (n : Nat), (A.deeper (lmE L s.heap.objs.size f c cl)).guards = some [] → Room k (A.deeper (lmE L s.heap.objs.size f c cl)) →
      Takes (lmX P w K mg base A outer s H E L f c cl) (yE E) → PassesOwn (model P w) (lmX P w K mg base A outer s H E L f c cl).A (lmX P w K mg base A outer s H E L f c cl).env (lmX P w K mg base A outer s H E L f c cl).xe → PE (lmX P w K mg base A outer s H E L f c cl) L.body (den K (yE E) (bE n))) :
    ClOk P w K mg base (k + 1) L (fnM (L.caps ++ L.ps).length L.N.length fun n => retM (bE n)) := by
  intro f c A outer s H as us vs Q E hgd hr e0 a hc rv lv hsp
  obtain ⟨cl, pm, ct, of1, inj, cell, has, val⟩ := a.ex
  have lim : s.heap.NoLimit := e0.mod.nolimit.keeps fun b o e => (e0.bs b o e).1
  obtain ⟨⟨oc, ws, t, hoc, hdc, hvc⟩, _, _⟩ := e0.hok c _ hc
  have la : as.length = L.ps.length := by rw [← rv.length]; exact lv
  have hpl : (L.caps ++ L.ps).length ≤ L.N.length := by
    have := congrArg List.length O.pre
    rw [List.length_take] at this
    omega
  obtain ⟨n, hst⟩ := start_den (ps := L.caps ++ L.ps) hpl hsp
  have hq : den K (yE E) (bE n) (L2.start L.N (us ++ vs)) H Q := by
    obtain ⟨C, W, sg, at', p⟩ := hst
    refine ⟨C, W, sg, at', ?_⟩
    unfold retM at p
    have p2 : PstS K (C.wi (yE E)) W { nx := fun _ H' => Q .non H', rt := Q } (bnd (bE n) (fun d => ret (Fl.rt d)) sg) := p
    unfold bnd at p2
    cases e : bE n sg with
    | ok d s1 =>
      rw [e] at p2
      exact fun W' H' l at1 v r => p2 W' _ H' l at1 v r
    | exc x s1 => rw [e] at p2; exact p2
    | stk => rw [e] at p2; exact p2
  refine PySem.W.kla_callFunE hr.depth of1 rfl O.co O.gen rfl ⟨c, oc, ws, t, rfl, hoc, hdc, hvc⟩ ?_
  rw [O.bind _ _ _ _ as la]
  have hloc : ∀ y ∈ L.ps.zip as, L.scope.names.lookup y.1 = some .local := fun y hy => O.par y.1 (List.of_mem_zip (a := y.1) (b := y.2) hy).1
  refine wpAny_pure (wpAny_newFunctionEnv (fun y hy => O.nocell y hy) hloc (fun h1 hns hsb => ⟨lim.fresh _ hsb, ?_⟩) O.kind)
  show codeAny _ _ (.expr L.body (lmE L s.heap.objs.size f c cl)) _ _
  have kp : ∀ b o, s.heap.get? b = some o → h1.get? b = some o := fun b o e => hsb.extBut b o (Nat.ne_of_lt (Heap.lt_size e)) (Heap.get?_push_of_some _ e)
  have J : Inv (lmX P w K mg base A outer s H E L f c cl) [] (L2.start L.N (us ++ vs)) H { s with heap := h1, toks := s.toks + (L.ps.zip as).length } := lm_start (pm := pm) (ct := ct) O e0 hr.hd inj cell has val a.len lv rv hns kp
  refine PySem.W.kla_codeExpr (wpAny_mono ((hbody A outer s H E f c cl n hgd (hr.deeper _) (takes_of rfl rfl rfl rfl) (passes_of rfl)).run [] _ _ H Q J hq) (fun v s' h => ?_) fun e s' h => h)
  obtain ⟨x, H', J', rx, q⟩ := h
  exact ⟨x, H', J'.os, J'.bare, J'.base, J'.hok, rx, q⟩
end
end Dn
/-! Lm2: a def that got a function value calls it, or hands it on. -/
namespace Dn
open PySem L2 PySem.Spec PyProof.Rows
/-- a function value, as the plain side sees it: its place, the captured values, what a call of it does -/
structure Clo where
  q : Str
  f : Addr
  c : Addr
  us : List V
  ds : List PV
  m : Fn
abbrev Clo.tok (φ : Clo) : PV := .fn φ.q φ.f φ.c φ.us φ.ds
def resM (s : S) : RR → Res S PV
  | .ok d st => .ok d { s with sto := st }
  | .exc e st => .exc e { s with sto := st }
  | .stk => .stk
open Classical in
/-- x(e, ..), x in the slot i -/
noncomputable def callF (φ : Clo) (i n : Nat) (ca : M (List PV)) : M PV := fun s => if s.env[i]? = some (some (.val φ.tok)) then bnd ca (fun as s2 => resM s2 (φ.m n (φ.ds ++ as) s2.sto)) s else .stk
/-- what is known of the function value φ in a body -/
structure CloX (X : Cx) (k : Nat) (L : LamB) (φ : Clo) : Prop where
  ok : ClOk X.prog X.w X.K X.mg X.base k L φ.m
  q : φ.q = L.q
  at_ : ClX X L φ.f φ.c φ.us
theorem CloX.tr {X : Cx} {k : Nat} {L : LamB} {φ : Clo} {pn : List (Addr × Obj)} {xe : Value → Shared → Prop} (a : CloX X k L φ) : CloX (X.tr pn xe) k L φ := ⟨a.ok, a.q, a.at_.tr⟩
section
variable {Y : WX} {X : Cx} {k j : Nat} {L : LamB} {φ : Clo} {x a : Str} {p pos : Pos} {e : Expr} {es : List Expr} {ca : M (List PV)} {i : Nat}
theorem SpPost_of {K : PySem.W.Frag} {C : Ctx} {W : Vw} {σ : L2.St} {H : Hp} {s : S} {Q : VK} {r : RR} (at' : At K (C.wi Y) W s σ H) (p : Pst K (C.wi Y) W σ (resM s r) (fun d _ W' H' => ∀ v, Rep K W' v d → Q v H')) : SpPost K W H Q (WE Y σ) r := by
  cases r with
  | ok d st => exact fun v W' H' l ok g r => p W' H' l (at'.call l ok g) v r
  | exc e st => exact fun W' H' cls d l ok g r => p W' σ H' cls d l (at'.call l ok g) r
  | stk => exact p.elim
theorem run_clo {pins : List (Addr × Obj)} {σ : L2.St} {H : Hp} {s : Shared} {Q : VK} {as : List Value} {us vs : List V} {f c : Addr} {m : Fn} (O : ClOk X.prog X.w X.K X.mg X.base j L m) (hgd : X.A.guards = some []) (hr : Room k X.A) (hjk : j ≤ k) (tY : Takes X Y) (I : Inv X pins σ H s)
    (hc : ClAt L (frs X.stack) s.heap H f c us) (hco : H c = some (LamX.CodeO c L.q)) (rv : Vals vs as) (lv : vs.length = L.ps.length) (h : spM X.K (L.caps ++ L.ps).length m (us ++ vs) H Q (WE Y σ)) : wpAny (model X.prog X.w) X.A (call (.ref f) as []) (EP X pins σ Q) X.xe s := by
  have go := O f c X.A X.stack s H as us vs Q (WE Y σ) hgd (hr.mono hjk) I.env0 hc hco rv lv h
  refine wpAny_call (codeAny_mono go fun res s' hq => ?_)
  match res, hq with
  | .error e, hq => exact passAt tY σ pins H s e s' I hq
  | .ok (.ret u), hq => exact I.after hq
  | .ok .next, hq => exact False.elim hq
  | .ok .brk, hq => exact False.elim hq
  | .ok .cont, hq => exact False.elim hq
theorem xcallF0 (n : Nat) (i : Nat) (O : CloX X j L φ) (hgd : X.A.guards = some []) (hr : Room k X.A) (tY : Takes X Y) (hjk : j ≤ k) (hps : L.ps = []) (hN : X.N[i]? = some a := by rfl)
    (hv : Vis X.env.scope a := by first | exact Or.inl rfl | exact Or.inr (Or.inl rfl) | exact Or.inr (Or.inr rfl)) (hd : (a == ("__debug__" : Str)) = false := by decide) (hcd : (a == ("__classdict__" : Str)) = false := by decide) :
    PE X (.Call (.Name a p) [] [] pos) (den X.K Y (callF φ i n argN)) := by
  refine ⟨fun pins s σ H Q I h => ?_⟩
  obtain ⟨C, W, sg, at', pp⟩ := h
  unfold callF at pp
  by_cases hc : sg.env[i]? = some (some (.val φ.tok))
  · rw [if_pos hc] at pp
    obtain ⟨v, hsv, rv⟩ := at'.val i _ hc
    cases rv with
    | fn hF hR =>
      refine wpAny_Call_Name_kw (thn ((pe_var (pos := p) (i := i) hN hv hd hcd).run pins s σ H (fun v H1 => v = .ref φ.f ∧ H1 = H) I ⟨_, hsv, rfl, rfl⟩) fun u s1 ⟨v, H1, I1, r1, q1⟩ => ?_)
      obtain ⟨ev, eH⟩ := q1
      subst ev
      subst eH
      obtain rfl : u = Value.ref φ.f := r1
      have hcl := O.at_.now I1
      obtain ⟨cl, pm, ct, of1, _⟩ := id hcl.ex
      refine PySem.W.callWith_F0 ⟨_, _, _, _, of1⟩ ?_
      have hco : H1 φ.c = some (LamX.CodeO φ.c L.q) := by rw [← O.q]; exact at'.ok.sub _ _ hF
      have pp : Pst X.K (C.wi Y) W σ (resM sg (φ.m n (φ.ds ++ []) sg.sto)) (fun d _ W' H' => ∀ v, Rep X.K W' v d → Q v H') := pp
      refine run_clo (vs := []) O.ok hgd hr hjk tY I1 hcl hco .nil (by rw [hps]; rfl) ⟨?_, n, W, sg.sto, φ.ds ++ [], at'.ok, hR.append .nil, SpPost_of at' pp⟩
      rw [hps, List.append_nil, List.append_nil]
      exact hcl.len
  · rw [if_neg hc] at pp
    exact pp.elim
end
/-! ### defs that get a function value -/
structure FnC (P : Program) (w : World) (K : PySem.W.Frag) (mg : Str → Option Value) (base : Heap) (k : Nat) (L : LamB) (φ : Clo) (f : Addr) (fd : FuncData) (ps : List Str) (sp : Sp) : Prop where
  len : ∀ vs H Q E, sp vs H Q E → vs.length = ps.length
  run : ∀ (A : Around) (outer : List PySem.Env) (s : Shared) (H : Hp) (args : Args) (us : List Value) (vs : List V) (Q : VK) (E : XK), A.guards = some [] → Room k A → Env0 P w K mg base A outer s H → BindsTo s fd args (ps.zip us) → Vals vs us → ClAt L (frs outer) s.heap H φ.f φ.c φ.us → sp vs H Q E →
    codeAny (model P w) A (.call (.ref f) args) (CR (L2.CX P w) outer P w H s Q E) s
theorem FnC.mono {P : Program} {w : World} {K : PySem.W.Frag} {mg : Str → Option Value} {base : Heap} {j k : Nat} {L : LamB} {φ : Clo} {f : Addr} {fd : FuncData} {ps : List Str} {sp : Sp} (F : FnC P w K mg base j L φ f fd ps sp) (h : j ≤ k) :
    FnC P w K mg base k L φ f fd ps sp := ⟨F.len, fun A outer s H args us vs Q E hg hr => F.run A outer s H args us vs Q E hg (hr.mono h)⟩
theorem fn_ofC {P : Program} {w : World} {K : PySem.W.Frag} {mg : Str → Option Value} {base : Heap} {k : Nat} {L : LamB} {φ : Clo} {f : Addr} {name qual : Str} {params : Arguments} {body : List Stmt} {scope : Scope} {dV kV doc pm cdv ct oc : Value} {an od : Option Addr}
    {osl : Array (Option Value)} {N ps : List Str} {sp : Sp} (lk : K.lookup f = some ⟨oc, od, .func (PySem.W.fnOf name qual params body scope dV kV doc pm an cdv ct), osl⟩) (hcd : PySem.W.codeIn K cdv qual = true) (S : FnScope N ps scope)
    (len : ∀ vs H Q E, sp vs H Q E → vs.length = ps.length)
    (hbody : ∀ (A : Around) (outer : List PySem.Env) (s : Shared) (H : Hp) (vs : List V) (Q : VK) (E : XK), (A.deeper (envOfC qual scope s.heap.objs.size f cdv)).guards = some [] → Room k (A.deeper (envOfC qual scope s.heap.objs.size f cdv)) →
      ClX (cxOf (L2.CX P w) P w K mg base N qual scope f cdv A outer s H E) L φ.f φ.c φ.us → sp vs H Q E →
      ∃ t, PSs (cxOf (L2.CX P w) P w K mg base N qual scope f cdv A outer s H E) body t ∧ t { nx := fun _ H' => Q .non H', rt := Q } (L2.start N vs) H) :
    FnC P w K mg base (k + 1) L φ f (PySem.W.fnOf name qual params body scope dV kV doc pm an cdv ct) ps sp := by
  refine ⟨len, fun A outer s H args us vs Q E hgd hr e0 hb r ca hsp => ?_⟩
  have hl := len _ _ _ _ hsp
  have KX : K.In s.heap := e0.mod.kin.keeps fun b o e => (e0.bs b o e).1
  have lim : s.heap.NoLimit := e0.mod.nolimit.keeps fun b o e => (e0.bs b o e).1
  have hkind : ∀ y ∈ ps.zip us, scope.names.lookup y.1 = some .local ∨ (scope.names.lookup y.1 = some .cell ∧ ((cellsFrom (s.heap.objs.size + 1) scope.names []).lookup y.1).isSome = true) := fun ⟨n, v⟩ hy => by
    rcases S.par n (List.of_mem_zip hy).1 with q | q
    · exact .inl q
    · exact .inr ⟨q, PySem.W.cellsFrom_some _ _ _ (.inl q)⟩
  refine codeAny_call_function hr.depth (KX _ _ lk) rfl S.co S.gen rfl (PySem.W.codeRec_of KX hcd) (hb _ _ _ _ ?_)
  refine wpAny_newFunctionEnv_cells S.kind hkind fun env he s1 x => ?_
  subst he
  refine ⟨lim.keeps x.toInCall.keep, codeAny_func ?_⟩
  obtain ⟨t, ht, hq⟩ := hbody A outer s H vs Q E hgd (hr.deeper _) ⟨rfl, ca⟩ hsp
  have I : Inv (cxOf (L2.CX P w) P w K mg base N qual scope f cdv A outer s H E) [] (L2.start N vs) H s1 := inv_start S hr.hd e0 hl r x
  refine wpAny_mono (ht.run [] s1 (L2.start N vs) H _ I hq) (fun fl s' hs => ?_) fun e s' hs => hs
  have fin : ∀ {σ' : L2.St} {H' : Hp} {v : V} {u : Value}, Inv (cxOf (L2.CX P w) P w K mg base N qual scope f cdv A outer s H E) [] σ' H' s' → RelV v u → Q v H' → CE outer P w H s Q u s' :=
    fun {σ' H' v u} J rv q => ⟨v, H', J.os, J.bare, J.base, J.hok, rv, q⟩
  cases fl with
  | ret u =>
    obtain ⟨v, σ', H', J, rv, q⟩ := hs
    exact fin J rv q
  | next =>
    obtain ⟨σ', H', J, q⟩ := hs
    exact fin (v := V.non) (u := Value.none) J rfl q
  | brk =>
    obtain ⟨_, _, _, q⟩ := hs
    exact False.elim q
  | cont =>
    obtain ⟨_, _, _, q⟩ := hs
    exact False.elim q
/-- THE RULE for such a def -/
theorem fn_denC {P : Program} {w : World} {K : PySem.W.Frag} {mg : Str → Option Value} {base : Heap} {k kL : Nat} {L : LamB} {φ : Clo} {f : Addr} {fd : FuncData} {x qual : Str} {st : Stmt} {N ps : List Str} {body : Nat → M Fl}
    (F : Fun K x qual st f fd) (S : FnScope N ps (defScope st)) (hN : ps.length ≤ N.length) (O : ClOk P w K mg base kL L φ.m) (hq : φ.q = L.q)
    (hbody : ∀ (cdv : Value) (A : Around) (outer : List PySem.Env) (s : Shared) (H : Hp) (E : XK) (n : Nat), (A.deeper (envOfC qual (defScope st) s.heap.objs.size f cdv)).guards = some [] → Room k (A.deeper (envOfC qual (defScope st) s.heap.objs.size f cdv)) →
      Takes (cxOf (L2.CX P w) P w K mg base N qual (defScope st) f cdv A outer s H E) (yE E) → PassesOwn (model P w) (bodyQ P w K mg base N qual st f cdv A outer s H E).A (bodyQ P w K mg base N qual st f cdv A outer s H E).env (bodyQ P w K mg base N qual st f cdv A outer s H E).xe →
      CloX (cxOf (L2.CX P w) P w K mg base N qual (defScope st) f cdv A outer s H E) kL L φ → PSs (cxOf (L2.CX P w) P w K mg base N qual (defScope st) f cdv A outer s H E) (defBody st) (denS K (yE E) (body n))) :
    FnC P w K mg base (k + 1) L φ f fd ps (spM K ps.length (fnM ps.length N.length body)) := by
  obtain ⟨oc, od, dV, kV, doc, pm, an, cdv, ct, osl, rfl, lk, hcd⟩ := F.ex
  refine fn_ofC lk hcd S (fun vs H Q E h => h.1) fun A outer s H vs Q E hgd hr hX hsp => ?_
  obtain ⟨n, h⟩ := start_den hN hsp
  exact ⟨_, hbody cdv A outer s H E n hgd hr (takes_of rfl rfl rfl rfl) (passes_of rfl) ⟨O, hq, hX⟩, h⟩
/-- what such a def needs to be called -/
structure DfC (P : Program) (w : World) (K : PySem.W.Frag) (mg : Str → Option Value) (base : Heap) (k : Nat) (x : Str) (ps : List Str) (L : LamB) (φ : Clo) (m : Fn) : Prop where
  ex : ∃ (f : Addr) (fd : FuncData), FnC P w K mg base k L φ f fd ps (spM K ps.length m) ∧ mg x = some (.ref f) ∧ PySem.W.keepIn K (.ref f) = true ∧ Binds K fd ps []
  len : ∀ n ds st, m n ds st ≠ .stk → ds.length = ps.length
theorem run_fnC {Y : WX} {X : Cx} {k j : Nat} {L : LamB} {φ : Clo} {f : Addr} {fd : FuncData} {ps : List Str} {sp : Sp} {pins : List (Addr × Obj)} {σ : L2.St} {H : Hp} {s : Shared} {Q : VK} {us : List Value} {vs : List V} (F : FnC X.prog X.w X.K X.mg X.base j L φ f fd ps sp) (hgd : X.A.guards = some []) (hr : Room k X.A) (hjk : j ≤ k)
    (tY : Takes X Y) (I : Inv X pins σ H s) (hb : Binds X.K fd ps []) (r : Vals vs us) (ca : ClAt L (frs X.stack) s.heap H φ.f φ.c φ.us) (h : sp vs H Q (WE Y σ)) : wpAny (model X.prog X.w) X.A (call (.ref f) us []) (EP X pins σ Q) X.xe s := by
  have hl : (us ++ []).length = ps.length := by rw [List.append_nil, ← r.length]; exact F.len _ _ _ _ h
  have bd := hb s us I.kIn hl
  rw [List.append_nil] at bd
  have go := F.run X.A X.stack s H ⟨us, []⟩ us vs Q (WE Y σ) hgd (hr.mono hjk) I.env0 bd r ca h
  refine wpAny_call (codeAny_mono go fun res s' hq => ?_)
  match res, hq with
  | .error e, hq => exact passAt tY σ pins H s e s' I hq
  | .ok (.ret u), hq => exact I.after hq
  | .ok .next, hq => exact False.elim hq
  | .ok .brk, hq => exact False.elim hq
  | .ok .cont, hq => exact False.elim hq
end Dn
/-! Lmk: the module's facts for lambdas. -/
namespace Dn
open PySem L2 PySem.Spec PyProof.Rows
def refO : Option Value → Option Addr
  | some (.ref P) => some P
  | _ => none
theorem refO_ok {o : Option Value} {P : Addr} (h : refO o = some P) : o = some (.ref P) := by
  cases o with
  | none => cases h
  | some v =>
    cases v with
    | ref a => cases h; rfl
    | _ => cases h
def strV : Value → Bool
  | .str _ _ => true
  | _ => false
theorem strV_ok {v : Value} (h : strV v = true) : ∃ x t, v = .str x t := by
  cases v with
  | str x t => exact ⟨x, t, rfl⟩
  | _ => cases h
def intV : Value → Bool
  | .int _ _ => true
  | _ => false
theorem intV_ok {v : Value} (h : intV v = true) : ∃ x t, v = .int x t := by
  cases v with
  | int x t => exact ⟨x, t, rfl⟩
  | _ => cases h
def blV : Value → Bool
  | .bool _ => true
  | _ => false
theorem blV_ok {v : Value} (h : blV v = true) : ∃ x, v = .bool x := by
  cases v with
  | bool x => exact ⟨x, rfl⟩
  | _ => cases h
/-- a code object's fields, its table at P -/
def codeFB (c P : Addr) : Option Obj → Bool
  | some ⟨.type "code", _, .fields vs, _⟩ => decide (refO vs[11]? = some P) && decide (refO (some (vs.getD 11 .none)) = some P) && strV (vs.getD 18 .none) && intV (vs.getD 7 .none) && blV (vs.getD 9 .none) && intV (vs.getD 10 .none) && decide (c ≠ P)
  | _ => false
theorem codeFB_ok {g : Addr → Option Obj} {h : Heap} {c P : Addr} (e : codeFB c P (g c) = true) (k : ∀ o, g c = some o → h.get? c = some o) : PySem.W.CodeHd h c P := by
  unfold codeFB at e
  split at e
  · rename_i d vs sl q
    simp only [Bool.and_eq_true, decide_eq_true_eq] at e
    obtain ⟨⟨⟨⟨⟨⟨e1, e2⟩, e3⟩, e4⟩, e5⟩, e6⟩, e7⟩ := e
    obtain ⟨file, tf, k3⟩ := strV_ok e3
    obtain ⟨fl, tg, k4⟩ := intV_ok e4
    obtain ⟨inF, k5⟩ := blV_ok e5
    obtain ⟨tx, tt, k6⟩ := intV_ok e6
    exact ⟨_, vs, file, tf, fl, tg, inF, tx, tt, k _ q, rfl, rfl, refO_ok e1, Option.some.inj (refO_ok e2), k3, k4, k5, k6, e7⟩
  · cases e
def bmB (bm P : Addr) : Option Obj → Bool
  | some ⟨.type "module", some d, .plain, _⟩ => decide (d = builtinsNs) && decide (bm ≠ builtinsNs) && decide (bm ≠ mainGlobals) && decide (bm ≠ P)
  | _ => false
theorem bmB_ok {g : Addr → Option Obj} {h : Heap} {mg : Str → Option Value} {bm P : Addr} (e : bmB bm P (g bm) = true) (k : ∀ o, g bm = some o → h.get? bm = some o) (hm : mg "__builtins__" = some (.ref bm)) : h.BuiltinsAt mg P := by
  unfold bmB at e
  split at e
  · rename_i d sl q
    simp only [Bool.and_eq_true, decide_eq_true_eq] at e
    obtain ⟨⟨⟨e1, e2⟩, e3⟩, e4⟩ := e
    exact ⟨bm, _, hm, e2, e3, e4, k _ q, rfl, by rw [e1], rfl⟩
  · cases e
/-- a mark, read -/
def twoV : Option Value → Option Value → Option (Addr × Str)
  | some (.ref P), some (.str q _) => some (P, q)
  | _, _ => none
def markOf (o : Obj) : Option (Addr × Str) := match o.data with
  | .fields vs => twoV vs[0]? vs[1]?
  | _ => none
theorem markOf_mark {P : Addr} {q : Str} : markOf (markO P q) = some (P, q) := rfl
def uniqB (K : PySem.W.Frag) (P : Addr) (q : Str) : Bool := K.all fun p => match markOf p.2 with
  | some (P', q') => !decide (p.1 = mainGlobals) || !decide (P' = P) || decide (q' = q)
  | none => true
theorem uniqB_ok {K : PySem.W.Frag} {P : Addr} {q q' : Str} (h : uniqB K P q = true) (m : MarkK K P q') : q' = q := by
  have := List.all_eq_true.mp h _ m
  rw [markOf_mark] at this
  simpa using this
def codeOfF (K : PySem.W.Frag) (f : Addr) : Option Addr := match K.lookup f with
  | some ⟨_, _, .func fd, _⟩ => refO (some fd.code)
  | _ => none
def tabOfC (K : PySem.W.Frag) (c : Addr) : Option Addr := match K.lookup c with
  | some ⟨_, _, .fields vs, _⟩ => refO vs[11]?
  | _ => none
/-- what is known of a def whose body makes lambdas -/
structure LamK (K : PySem.W.Frag) (mg : Str → Option Value) (f : Addr) (q : Str) : Prop where
  ex : ∃ c P, codeOfF K f = some c ∧ MarkK K P q ∧ (∀ q', MarkK K P q' → q' = q) ∧ mainGlobals ≠ P ∧ codeFB c P (K.lookup c) = true ∧ ∃ bm, mg "__builtins__" = some (.ref bm) ∧ bmB bm P (K.lookup bm) = true
def lamKB (K : PySem.W.Frag) (f bm : Addr) (q : Str) : Bool := match codeOfF K f with
  | some c => (match tabOfC K c with
    | some P => (K.any fun p => decide (p.1 = mainGlobals) && (match p.2 with
        | ⟨.none, none, .fields ⟨[.ref P', .str q' t]⟩, ⟨[]⟩⟩ => decide (P' = P) && decide (q' = q) && decide (t = 0)
        | _ => false)) && uniqB K P q && decide (mainGlobals ≠ P) && codeFB c P (K.lookup c) && bmB bm P (K.lookup bm)
    | none => false)
  | none => false
theorem lamK_of {K : PySem.W.Frag} {mg : Str → Option Value} {f bm : Addr} {q : Str} (h : lamKB K f bm q = true) (hm : mg "__builtins__" = some (.ref bm)) : LamK K mg f q := by
  unfold lamKB at h
  split at h
  · rename_i c hc
    split at h
    · rename_i P hP
      simp only [Bool.and_eq_true, decide_eq_true_eq] at h
      obtain ⟨⟨⟨⟨h1, h2⟩, h3⟩, h4⟩, h5⟩ := h
      refine ⟨c, P, hc, ?_, fun q' m => uniqB_ok h2 m, h3, h4, bm, hm, h5⟩
      obtain ⟨⟨a, o⟩, hp, e⟩ := List.any_eq_true.mp h1
      rw [Bool.and_eq_true, decide_eq_true_eq] at e
      obtain ⟨e1, e2⟩ := e
      dsimp only at e1 e2
      split at e2
      · simp only [Bool.and_eq_true, decide_eq_true_eq] at e2
        obtain ⟨⟨k1, k2⟩, k3⟩ := e2
        subst k1 k2 k3 e1
        exact hp
      · cases e2
    · cases h
  · cases h
/-- .. in such a def's body -/
structure LamF (X : Cx) (q : Str) : Prop where
  ex : ∃ c P, X.env.code = .ref c ∧ MarkK X.K P q ∧ (∀ q', MarkK X.K P q' → q' = q) ∧ mainGlobals ≠ P ∧ codeFB c P (X.K.lookup c) = true ∧ ∃ bm, X.mg "__builtins__" = some (.ref bm) ∧ bmB bm P (X.K.lookup bm) = true
theorem LamF.tr {X : Cx} {q : Str} {pn : List (Addr × Obj)} {xe : Value → Shared → Prop} (a : LamF X q) : LamF (X.tr pn xe) q := ⟨a.ex⟩
theorem LamF.of {P : Program} {w : World} {K : PySem.W.Frag} {mg : Str → Option Value} {base : Heap} {N : List Str} {x qual q : Str} {st : Stmt} {f : Addr} {dV kV doc pm cdv ct oc : Value} {an od : Option Addr} {osl : Array (Option Value)} {A : Around} {outer : List PySem.Env} {s : Shared} {H : Hp} {E : XK} (a : LamK K mg f q)
    (lk : K.lookup f = some ⟨oc, od, .func (PySem.W.fnOf x qual (defArgs st) (defBody st) (defScope st) dV kV doc pm an cdv ct), osl⟩) : LamF (bodyQ P w K mg base N qual st f cdv A outer s H E) q := by
  obtain ⟨c, P', h1, r⟩ := a.ex
  refine ⟨c, P', ?_, r⟩
  unfold codeOfF at h1
  rw [lk] at h1
  exact Option.some.inj (refO_ok h1)
end Dn
/-! Lm3: a lambda is made and handed to a def. -/
namespace Dn
open PySem L2 PySem.Spec PyProof.Rows
section
variable {K : PySem.W.Frag} {C : Ctx} {W W' : Vw} {σ : L2.St} {H : Hp} {s : S} {P c : Addr} {q : Str} {ps : Array Value}
/-- the captured names' values -/
def capS : List Nat → S → Option (List PV × S)
  | [], s => some ([], s)
  | i :: is, s => match s.env[i]? with
    | some (some (.val d)) => (capS is s).map fun p => (d :: p.1, p.2)
    | some (some (.own xs)) => (capS is { s with env := s.env.set i (some (.val (.lst xs))) }).map fun p => (.lst xs :: p.1, p.2)
    | _ => none
theorem cap_at : ∀ {is : List Nat} {W : Vw} {s s' : S} {ds : List PV}, At K C W s σ H → capS is s = some (ds, s') → ∃ W' us, W.Le W' ∧ At K C W' s' σ H ∧ Reps K W' us ds ∧ us.length = is.length ∧ ∀ (j i : Nat) (v : V), is[j]? = some i → us[j]? = some v → σ[i]? = some (some v)
  | [], W, s, s', ds, at', h => by
    cases h
    exact ⟨W, [], Vw.Le.refl W, at', .nil, rfl, fun j i v e => by simp at e⟩
  | i :: is, W, s, s', ds, at', h => by
    unfold capS at h
    split at h
    · rename_i d hd
      obtain ⟨⟨ds', s2⟩, e, h2⟩ := Option.map_eq_some_iff.mp h
      cases h2
      obtain ⟨v, hv, rv⟩ := at'.val i d hd
      obtain ⟨W', us, l, a2, r, ln, g⟩ := cap_at at' e
      refine ⟨W', v :: us, l, a2, .cons (rv.mono l) r, by rw [List.length_cons, List.length_cons, ln], fun j i' v' e1 e2 => ?_⟩
      cases j with
      | zero =>
        simp at e1 e2
        subst e1 e2
        exact hv
      | succ j => exact g j i' v' (by simpa using e1) (by simpa using e2)
    · rename_i xs hd
      obtain ⟨⟨ds', s2⟩, e, h2⟩ := Option.map_eq_some_iff.mp h
      cases h2
      obtain ⟨W1, a, hv, l1, at1, ra⟩ := at'.freeze hd
      obtain ⟨W', us, l, a2, r, ln, g⟩ := cap_at at1 e
      refine ⟨W', .ref a :: us, l1.trans l, a2, .cons (ra.mono l) r, by rw [List.length_cons, List.length_cons, ln], fun j i' v' e1 e2 => ?_⟩
      cases j with
      | zero =>
        simp at e1 e2
        subst e1 e2
        exact hv
      | succ j => exact g j i' v' (by simpa using e1) (by simpa using e2)
    · cases h
/-- a new code object: the table grows, the object is known from now on -/
theorem At.newCode {more : Array Value} (h : At K C W s σ H) (hP : H P = some (.tbl ps)) (fP : W.F P = none) (hc : H c = none) (hu : ∀ q', MarkK K P q' → q' = q) (ht : TriplesOk (ps ++ more).toList)
    (ha : ∀ (pos : Pos) (cv : Value), codeAmong pos (ps ++ more).toList = some cv → codeAmong pos ps.toList = some cv ∨ cv = .ref c) :
    W.Le ⟨upd W.F c (LamX.CodeO c q), W.hs⟩ ∧ At K C ⟨upd W.F c (LamX.CodeO c q), W.hs⟩ s σ (upd (upd H P (.tbl (ps ++ more))) c (LamX.CodeO c q)) := by
  obtain ⟨f1, f2, f3⟩ := h.fresh hc
  have nPc : P ≠ c := ne_of_none hP hc
  have le : W.Le ⟨upd W.F c (LamX.CodeO c q), W.hs⟩ := ⟨fun b u e => by show upd W.F c (LamX.CodeO c q) b = some u; rw [upd_ne (ne_of_none e f1)]; exact e, fun _ _ e => e⟩
  have at_ : ∀ {b : Addr}, b ≠ P → b ≠ c → upd (upd H P (.tbl (ps ++ more))) c (LamX.CodeO c q) b = H b := fun {b} h1 h2 => by rw [upd_ne h2, upd_ne h1]
  have atP : upd (upd H P (.tbl (ps ++ more))) c (LamX.CodeO c q) P = some (.tbl (ps ++ more)) := by rw [upd_ne nPc, upd_same]
  have hnP : ∀ {n : Nat} {b : Addr}, W.hs[n]? = some b → b ≠ P := fun {n b} e z => by
    subst z
    exact h.ok.no_tbl e fP ps hP
  refine ⟨le, ⟨⟨fun b u e => ?_, fun n b e => ?_, h.ok.nd, h.ok.len, fun P' q' m => ?_⟩, fun b u e hb => ?_, h.pre, fun b hb => ?_, h.len, fun j d e => ?_, fun j ys e => ?_, h.dst⟩⟩
  · have e : upd W.F c (LamX.CodeO c q) b = some u := e
    by_cases hb : b = c
    · subst hb
      rw [upd_same] at e ⊢
      exact e
    · rw [upd_ne hb] at e
      have hbP : b ≠ P := fun z => by rw [z, fP] at e; cases e
      rw [at_ hbP hb]
      exact h.ok.sub b u e
  · have hb : b ≠ c := fun z => f2 (z ▸ List.mem_of_getElem? e)
    exact (h.ok.hnd n b e).map (by show upd W.F c (LamX.CodeO c q) b = _; rw [upd_ne hb]) rfl fun mo g3 => (g3.at (at_ (hnP e) hb)).mono le
  · by_cases hP' : P' = P
    · subst hP'
      have e := hu q' m
      subst e
      refine ⟨by show upd W.F c _ P' = none; rw [upd_ne nPc]; exact fP, ps ++ more, atP, ht, fun pos cv hcv => ?_⟩
      rcases ha pos cv hcv with z | z
      · obtain ⟨_, ps', t1, t2, t3⟩ := h.ok.tab P' q' m
        rw [hP] at t1
        cases t1
        obtain ⟨c1, r1, r2⟩ := t3 pos cv z
        exact ⟨c1, r1, le.ex _ _ r2⟩
      · exact ⟨c, z, upd_same⟩
    · have t := h.ok.tab P' q' m
      obtain ⟨t0, ps', t1, _⟩ := id t
      have n2 : P' ≠ c := ne_of_none t1 hc
      exact t.up le.ex (by show upd W.F c _ P' = none; rw [upd_ne n2]; exact t0) (at_ hP' n2)
  · have hbc : b ≠ c := fun z => by rw [z, f3] at e; cases e
    by_cases hbP : b = P
    · rw [hbP, atP]
      refine (h.keep b u e hb).elim (fun z => ?_) fun ⟨z, _⟩ => .inr ⟨z, _, rfl⟩
      rw [hbP, hP] at z
      cases z
      exact .inr ⟨⟨_, rfl⟩, _, rfl⟩
    · rw [at_ hbP hbc]
      exact h.keep b u e hb
  · obtain ⟨r1, r2⟩ := h.gro b hb
    exact ⟨by show upd W.F c _ b = _; rw [upd_ne (fun z => hb (by rw [z]; exact f3))]; exact r1, r2⟩
  · obtain ⟨v, e1, r⟩ := h.val j d e
    exact ⟨v, e1, r.mono le⟩
  · obtain ⟨b, ws, e1, ow, e2, r⟩ := h.own j ys e
    have hbc : b ≠ c := ne_of_none e2 hc
    have hbP : b ≠ P := fun z => by rw [z, hP] at e2; cases e2
    exact ⟨b, ws, e1, ⟨by show upd W.F c _ b = _; rw [upd_ne hbc]; exact ow.f, ow.h, ow.g⟩, by rw [at_ hbP hbc]; exact e2, r.mono le⟩
end
section
variable {X : Cx} {pins : List (Addr × Obj)} {σ : L2.St} {H : Hp} {s : Shared} {C : Ctx} {W : Vw} {sg : S} {L : LamB} {us : List V} {is : List Nat} {pos : Pos} {E : Value → Shared → Prop} {Q : Value → Shared → Prop}
theorem mk_lam (O : LamOk L) (T : LamF X L.q) (hq : X.env.qual ++ "<lambda>" = L.q) (hdef : defaultsOf L.params X.env = ([], [])) (hfree : ∀ x ∈ L.caps, X.env.scope.names.lookup x = some .cell ∨ X.env.scope.names.lookup x = some .free)
    (hN : ∀ (j i : Nat) (x : Str), is[j]? = some i → L.caps[j]? = some x → X.N[i]? = some x) (hil : is.length = L.caps.length) (I : Inv X pins σ H s) (at' : At X.K C W sg σ H) (hus : ∀ (j i : Nat) (v : V), is[j]? = some i → us[j]? = some v → σ[i]? = some (some v)) (hul : us.length = is.length) (hfn : ∀ x ∈ L.caps, X.fn x = true)
    (h : ∀ (f c : Addr) (W1 : Vw) (H1 : Hp) (s1 : Shared), W.Le W1 → At X.K C W1 sg σ H1 → Inv X pins σ H1 s1 → ClAt L (frs X.stack) s1.heap H1 f c us → W1.F c = some (LamX.CodeO c L.q) → Q (.ref f) s1) :
    wpAny (model X.prog X.w) X.A (eval (.Lambda L.params L.body L.scope pos) X.env) Q E s := by
  obtain ⟨c0, P, hcode, hm, hu, gP, hcf, bm, hbm, hbf⟩ := T.ex
  have TB : LamX.TabB X.base X.mg c0 P := ⟨codeFB_ok (g := fun a => X.K.lookup a) hcf fun o e => I.ok.mod.kin _ _ e, bmB_ok (g := fun a => X.K.lookup a) hbf (fun o e => I.ok.mod.kin _ _ e) hbm, gP⟩
  obtain ⟨fP, ps, hP, ht, hcs⟩ := at'.ok.tab P L.q hm
  have bP : s.heap.BuiltinsAt X.mg P := TB.bm.keeps I.bk
  have hP' : s.heap.get? P = some { cls := .none, data := .fields ps } := I.hok P _ hP
  have hlook : ∀ y ∈ L.scope.names, y.2 = .free → ∃ c, X.env.cells.lookup y.1 = some c := fun y hy e => by
    rcases hfree _ (O.all y hy e) with k | k
    · exact I.ok.has _ (.inl k)
    · exact I.ok.has _ (.inr k)
  have cm : ∀ {y : Str} {a : Addr}, (cloFrom X.env.cells L.scope.names []).lookup y = some a → X.env.cells.lookup y = some a := fun {y a} e => by
    rcases cloFrom_mem (PySem.mem_of_lookup e) with z | ⟨h1, h2⟩
    · cases z
    · obtain ⟨a1, e1⟩ := hlook _ h1 rfl
      have e1 : X.env.cells.lookup y = some a1 := e1
      rw [e1] at h2
      rw [e1, h2] <;> rfl
  have look : ∀ {y : Str}, y ∈ L.caps → ∃ a, (cloFrom X.env.cells L.scope.names []).lookup y = some a := fun {y} hy => mem_lookup (cloFrom_has (cells := X.env.cells) (acc := []) (PySem.mem_of_lookup (O.free y hy)))
  have nofr : ∀ f, s.heap.objs.size ≤ f → f ∉ frs X.stack := fun f hf z => by
    rcases List.mem_cons.mp (I.stkSub _ z) with e | e
    · have := I.lt
      rw [← e] at this
      exact Nat.lt_irrefl _ (Nat.lt_of_lt_of_le this hf)
    · exact I.nofs hf e
  -- the function object stands in a heap that keeps the cells
  have mkC : ∀ {f c : Addr} {pm ctv : Value} {s1 : Shared} {H1 : Hp}, Inv X pins σ H1 s1 → s1.heap.get? f = some (PySem.W.kla_obj "<lambda>" L.q L.params L.body L.scope (cloFrom X.env.cells L.scope.names []) pm c ctv) → H1 f = none → f ∉ frs X.stack → ClAt L (frs X.stack) s1.heap H1 f c us := by
    intro f c pm ctv s1 H1 I1 hf hn hfr
    refine ⟨⟨_, pm, ctv, hf, fun x y a e1 e2 => I1.ok.inj x y a (cm e1) (cm e2), fun x a e => ?_, fun x hx => look hx, fun j x u h1 h2 => ?_⟩, hn, hfr, by rw [hul, hil]⟩
    · have e0 := e
      have e := cm e
      refine ⟨I1.freeC x a e, fun z => ?_, I1.cell x a e⟩
      rcases List.mem_cons.mp (I1.stkSub _ z) with k | k
      · exact I1.cne x a e k
      · obtain ⟨_, o, ho, _⟩ := I1.ok.funs.mem k
        have hx : x ∈ L.caps := by
          rcases cloFrom_mem (PySem.mem_of_lookup e0) with z | ⟨h1, _⟩
          · cases z
          · exact O.all _ h1 rfl
        exact absurd (Nat.lt_of_lt_of_le (Heap.lt_size ho) (I1.ok.cab x a (hfn x hx) e)) (Nat.lt_irrefl _)
    · obtain ⟨i, hi⟩ : ∃ i, is[j]? = some i := ⟨_, List.getElem?_eq_getElem (by rw [hil]; exact (List.getElem?_eq_some_iff.mp h1).1)⟩
      have hv := hus j i u hi h2
      have hx := List.mem_of_getElem? h1
      obtain ⟨m, hm, hl⟩ := I1.loc
      have vis : Vis X.env.scope x := .inr (hfree x hx)
      obtain ⟨w', r, q⟩ := hl i x u (hN j i x hi h1) hv vis
      obtain ⟨a, ha⟩ := look hx
      refine ⟨a, w', ha, ?_, r⟩
      rcases q with ⟨k, _⟩ | ⟨_, a2, e2, z⟩
      · have k : X.env.scope.names.lookup x = some .local := k
        rcases hfree x hx with k2 | k2 <;> rw [k2] at k <;> cases k
      · rw [cm ha] at e2
        cases e2
        exact z
  refine PySem.W.kla_eval hdef ?_
  rw [hq]
  cases hca : codeAmong pos ps.toList with
  | none =>
    refine PySem.W.kla_makeFunction (mg := X.mg) (c := c0) (P := P) (ps := ps) (closure_ok hlook) I.ok.glob (I.mod.glob.keeps I.bk) hcode (TB.code.keeps I.bk) hP' ht hca TB.gP bP fun c ctv h' tk hx hge hlt hrec htb => ?_
    obtain ⟨c2, oc, vs, t, e2, hoc, hd, hv⟩ := hrec
    cases e2
    have hsz : s.heap.objs.size ≤ h'.objs.size := Nat.le_trans hge (Nat.le_of_lt hlt)
    have nC : H c = none := I.hok.fresh hge
    have I1 := LamX.inv_table (q := L.q) (t' := tk) (more := #[rawInt pos.line, rawInt pos.col, .ref c]) (h' := h'.push (PySem.W.kla_obj "<lambda>" L.q L.params L.body L.scope (cloFrom X.env.cells L.scope.names []) ((X.mg "__name__").getD .none) c ctv)) I hP
      (fun b o hb e => Heap.get?_push_of_some _ (hx b o hb e)) (Heap.get?_push_of_some _ htb) hge ⟨oc, vs, t, Heap.get?_push_of_some _ hoc, hd, hv⟩
    have eL : (ps ++ #[rawInt pos.line, rawInt pos.col, Value.ref c]).toList = ps.toList ++ [rawInt pos.line, rawInt pos.col, .ref c] := by simp
    obtain ⟨le, at1⟩ := at'.newCode (q := L.q) (more := #[rawInt pos.line, rawInt pos.col, .ref c]) hP fP nC hu (by rw [eL]; exact PySem.TriplesOk_snoc _ _ _ _ ht) fun p' cv hcv => by
      rw [eL] at hcv
      exact LamX.among_app _ ht hcv
    refine h h'.objs.size c _ _ _ le at1 I1 (mkC I1 (Heap.get?_push_size _ rfl) ?_ (nofr _ hsz)) upd_same
    have n1 : h'.objs.size ≠ c := Nat.ne_of_gt hlt
    have n2 : h'.objs.size ≠ P := Nat.ne_of_gt (Nat.lt_of_lt_of_le (Heap.lt_size hP') hsz)
    rw [upd_ne n1, upd_ne n2]
    exact I.hok.fresh hsz
  | some cv =>
    obtain ⟨c, e, hF⟩ := hcs pos cv hca
    subst e
    refine PySem.W.kla_makeFunctionHit (mg := X.mg) (c := c0) (P := P) (ps := ps) (closure_ok hlook) I.ok.glob (I.mod.glob.keeps I.bk) hcode (TB.code.keeps I.bk) hP' ht hca bP fun ctv h' tk hx hsz => ?_
    have I1 : Inv X pins σ H { s with heap := h'.push (PySem.W.kla_obj "<lambda>" L.q L.params L.body L.scope (cloFrom X.env.cells L.scope.names []) ((X.mg "__name__").getD .none) c ctv), toks := tk } := I.kept fun b o e => Heap.get?_push_of_some _ (hx b o e)
    exact h h'.objs.size c W H _ (Vw.Le.refl W) at' I1 (mkC I1 (Heap.get?_push_size _ rfl) (I.hok.fresh hsz) (nofr _ hsz)) hF
end
/-! ### x(lambda: body), x(e, lambda y: body) -/
open Classical in
noncomputable def anyR (F : Addr → Addr → List V → RR) : RR := if h : ∃ r, ∀ f c us, F f c us = r then Classical.choose h else .stk
theorem anyR_at {F : Addr → Addr → List V → RR} {r : RR} (e : anyR F = r) (n : r ≠ .stk) (f c : Addr) (us : List V) : F f c us = r := by
  unfold anyR at e
  split at e
  · rename_i h
    rw [← e]
    exact Classical.choose_spec h f c us
  · exact absurd e.symm n
theorem anyR_eq {F : Addr → Addr → List V → RR} {r : RR} (h : ∀ f c us, F f c us = r) : anyR F = r := by
  have hx : ∃ r, ∀ f c us, F f c us = r := ⟨r, h⟩
  unfold anyR
  rw [dif_pos hx, ← Classical.choose_spec hx 0 0 [], h]
noncomputable def lamM (pre : M (List PV)) (is : List Nat) (q : Str) (mE : Fn) (mT : Clo → Fn) (n : Nat) : M PV := bnd pre fun as s => match capS is s with
  | none => .stk
  | some p => resM p.2 (anyR fun f c us => mT ⟨q, f, c, us, p.1, mE⟩ n (as ++ [Clo.tok ⟨q, f, c, us, p.1, mE⟩]) p.2.sto)
section
variable {Y : WX} {X : Cx} {k j : Nat} {L : LamB} {x : Str} {ps : List Str} {mE : Fn} {mT : Clo → Fn} {is : List Nat} {p pos lpos : Pos} {params : Arguments} {body : Expr} {scope : Scope}
theorem lam_run {pins : List (Addr × Obj)} {σ : L2.St} {H : Hp} {s : Shared} {C : Ctx} {W : Vw} {sg : S} {as : List PV} {vs : List V} {ws : List Value} {Q : VK} (n : Nat) (D : ∀ φ : Clo, φ.q = L.q → φ.m = mE → DfC X.prog X.w X.K X.mg X.base j x ps L φ (mT φ)) (O : LamOk L) (T : LamF X L.q) (hq : X.env.qual ++ "<lambda>" = L.q)
    (hdef : defaultsOf L.params X.env = ([], [])) (hfree : ∀ x ∈ L.caps, X.env.scope.names.lookup x = some .cell ∨ X.env.scope.names.lookup x = some .free) (hN : ∀ (j i : Nat) (x : Str), is[j]? = some i → L.caps[j]? = some x → X.N[i]? = some x) (hil : is.length = L.caps.length) (hfn : ∀ x ∈ L.caps, X.fn x = true)
    (hgd : X.A.guards = some []) (hr : Room k X.A) (tY : Takes X Y) (hjk : j ≤ k) {g : Addr} (hm : X.mg x = some (.ref g)) (I : Inv X pins σ H s) (at' : At X.K (C.wi Y) W sg σ H) (ra : Reps X.K W vs as) (rv : Vals vs ws)
    (pp : Pst X.K (C.wi Y) W σ ((match capS is sg with
      | none => Res.stk
      | some p => resM p.2 (anyR fun f c us => mT ⟨L.q, f, c, us, p.1, mE⟩ n (as ++ [Clo.tok ⟨L.q, f, c, us, p.1, mE⟩]) p.2.sto)) : Res S PV) (fun d _ W' H' => ∀ v, Rep X.K W' v d → Q v H')) :
    wpAny (model X.prog X.w) X.A (eval (.Lambda L.params L.body L.scope lpos) X.env) (fun u s1 => X.K.In s1.heap ∧ wpAny (model X.prog X.w) X.A (call (.ref g) (ws ++ [u]) []) (EP X pins σ Q) X.xe s1) X.xe s := by
  cases hc : capS is sg with
  | none => rw [hc] at pp; exact pp.elim
  | some p2 =>
    obtain ⟨ds, sg2⟩ := p2
    rw [hc] at pp
    obtain ⟨W1, us, l1, at1, rus, hul, hus⟩ := cap_at at' hc
    have pp1 := pp.up l1
    refine mk_lam (is := is) (us := us) O T hq hdef hfree hN hil I at1 hus hul hfn fun f c W2 H2 s2 l2 at2 I2 ca hF => ⟨I2.kIn, ?_⟩
    have pp2 := pp1.up l2
    dsimp only at pp2
    obtain ⟨g', fd, F, hg', hk, hb⟩ := (D ⟨L.q, f, c, us, ds, mE⟩ rfl rfl).ex
    rw [hm] at hg'
    cases hg'
    have rtok : Rep X.K W2 (.ref f) (Clo.tok ⟨L.q, f, c, us, ds, mE⟩) := .fn hF (rus.mono l2)
    have rall : Reps X.K W2 (vs ++ [.ref f]) (as ++ [Clo.tok ⟨L.q, f, c, us, ds, mE⟩]) := ((ra.mono (l1.trans l2)).append (.cons rtok .nil))
    generalize hR : anyR (fun f c us => mT ⟨L.q, f, c, us, ds, mE⟩ n (as ++ [Clo.tok ⟨L.q, f, c, us, ds, mE⟩]) sg2.sto) = R at pp2
    have hne : R ≠ .stk := fun z => by rw [z] at pp2; exact pp2.elim
    have e := anyR_at hR hne f c us
    have hlen : (vs ++ [V.ref f]).length = ps.length := by
      rw [rall.length]
      exact (D ⟨L.q, f, c, us, ds, mE⟩ rfl rfl).len n _ sg2.sto (by rw [e]; exact hne)
    refine run_fnC F hgd hr hjk tY I2 hb (Vals.append rv (.cons (show L2.RelV (.ref f) (.ref f) from rfl) .nil)) ca ⟨hlen, n, W2, sg2.sto, _, at2.ok, rall, ?_⟩
    rw [e]
    exact SpPost_of at2 pp2
/-- x(lambda: body) -/
theorem xlam (n : Nat) (is : List Nat) (D : ∀ φ : Clo, φ.q = L.q → φ.m = mE → DfC X.prog X.w X.K X.mg X.base j x ps L φ (mT φ)) (O : LamOk L) (T : LamF X L.q) (hgd : X.A.guards = some []) (hr : Room k X.A) (tY : Takes X Y) (hjk : j ≤ k)
    (hq : X.env.qual ++ "<lambda>" = L.q) (hdef : defaultsOf L.params X.env = ([], [])) (hfree : ∀ x ∈ L.caps, X.env.scope.names.lookup x = some .cell ∨ X.env.scope.names.lookup x = some .free) (hN : ∀ (j i : Nat) (x : Str), is[j]? = some i → L.caps[j]? = some x → X.N[i]? = some x) (hil : is.length = L.caps.length) (hfn : ∀ x ∈ L.caps, X.fn x = true)
    (hg : Gl X x := by rfl) (hdb : (x == ("__debug__" : Str)) = false := by decide) (he : starEach [.Lambda L.params L.body L.scope lpos] X.env = (false, eval (.Lambda L.params L.body L.scope lpos) X.env) :: starEach [] X.env := by rfl) (hpl : (backTo pos (starEach [] X.env)).any (·.1) = false := by rfl) :
    PE X (.Call (.Name x p) [.Lambda L.params L.body L.scope lpos] [] pos) (den X.K Y (lamM argN is L.q mE mT n)) := by
  obtain ⟨g, fd, F, hm, hk, hb⟩ := (D ⟨L.q, 0, 0, [], [], mE⟩ rfl rfl).ex
  refine ⟨fun pins s σ H Q I h => wpAny_Call_Name_kw (ld_glob I hg hm ?_ hdb)⟩
  obtain ⟨C, W, sg, at', pp⟩ := h
  refine PySem.W.callWith_K (h₀ := X.base) I.ok.mod.kin hk ?_ he hpl
  rw [he]
  show wpAny _ _ (spliced ((false, eval (.Lambda L.params L.body L.scope lpos) X.env) :: backTo pos (starEach [] X.env))) _ _ s
  refine Calls.spliced_cons (wpAny_mono (lam_run (as := []) (vs := []) (ws := []) n D O T hq hdef hfree hN hil hfn hgd hr tY hjk hm I at' .nil .nil pp) (fun u s1 q => ?_) fun _ _ z => z)
  exact Calls.spliced_nil q
end
end Dn
/-! Lm4: the rules for lambdas as they are printed. -/
namespace Dn
open PySem L2 PySem.Spec PyProof.Rows
def lamOkB (caps ps N : List Str) (scope : Scope) : Bool :=
  decide (scope.kind = .function) && !scope.isCoroutine && !scope.isGenerator && (scope.names.all fun y => !decide (y.2 = .cell) && (!decide (y.2 = .free) || decide (y.1 ∈ caps))) && decide N.Nodup && decide (N.take (caps ++ ps).length = caps ++ ps) &&
    (caps.all fun x => decide (scope.names.lookup x = some .free)) && (ps.all fun x => decide (scope.names.lookup x = some .local)) && decide (ps.length ≤ 1)
theorem lamOk_by {q : Str} {params : Arguments} {body : Expr} {scope : Scope} {caps ps N : List Str} (h : lamOkB caps ps N scope = true)
    (hb : ∀ (q : Str) (cl : List (Str × Addr)) (pm cv ctv : Value) (us : List Value), us.length = ps.length → bindArgs (PySem.W.kla_fn "<lambda>" q params body scope cl pm cv ctv) ⟨us, []⟩ = pure (ps.zip us)) : LamOk ⟨q, params, body, scope, caps, ps, N⟩ := by
  unfold lamOkB at h
  simp only [Bool.and_eq_true, Bool.or_eq_true, Bool.not_eq_true', decide_eq_true_eq, decide_eq_false_iff_not, List.all_eq_true] at h
  obtain ⟨⟨⟨⟨⟨⟨⟨⟨h1, h2⟩, h3⟩, h4⟩, h5⟩, h6⟩, h7⟩, h8⟩, h9⟩ := h
  exact ⟨h1, h2, h3, fun y hy => (h4 y hy).1, h5, h6, h7, h8, fun y hy e => (h4 y hy).2.elim (fun z => absurd e z) id, h9, hb q⟩
def siteB (is : List Nat) (caps N0 : List Str) (sc : Scope) : Bool :=
  (caps.all fun x => decide (sc.names.lookup x = some .cell) || decide (sc.names.lookup x = some .free)) && decide (is.map (fun i => N0[i]?) = caps.map some)
theorem site_by {is : List Nat} {caps N0 : List Str} {sc : Scope} (h : siteB is caps N0 sc = true) : (∀ x ∈ caps, sc.names.lookup x = some .cell ∨ sc.names.lookup x = some .free) ∧ (∀ (j i : Nat) (x : Str), is[j]? = some i → caps[j]? = some x → N0[i]? = some x) ∧ is.length = caps.length := by
  unfold siteB at h
  simp only [Bool.and_eq_true, Bool.or_eq_true, decide_eq_true_eq, List.all_eq_true] at h
  obtain ⟨h1, h2⟩ := h
  refine ⟨h1, fun j i x e1 e2 => ?_, ?_⟩
  · have e := congrArg (fun l => l[j]?) h2
    simp only [List.getElem?_map, e1, e2, Option.map_some] at e
    exact Option.some.inj e
  · have := congrArg List.length h2
    rwa [List.length_map, List.length_map] at this
section
variable {Y : WX} {X : Cx} {k j : Nat} {x : Str} {pss : List Str} {mT : Clo → Fn} {p pos lpos : Pos} {params : Arguments} {body : Expr} {scope : Scope}
/-- x(lambda: body) -/
theorem xlamT (n : Nat) (q : Str) (caps : List Str) (is : List Nat) (N N0 : List Str) (sc : Scope) (kL np nn : Nat) {bE : Nat → M PV}
    (D : ∀ φ : Clo, ClOk X.prog X.w X.K X.mg X.base (kL + 1) ⟨q, params, body, scope, caps, [], N⟩ φ.m → φ.q = q → DfC X.prog X.w X.K X.mg X.base j x pss ⟨q, params, body, scope, caps, [], N⟩ φ (mT φ))
    (T : LamF X q) (hgd : X.A.guards = some []) (hr : Room k X.A) (tY : Takes X Y) (hjk : j ≤ k) (hok : lamOkB caps [] N scope = true) (hsite : siteB is caps N0 sc = true) (hnp : caps.length = np) (hnn : N.length = nn)
    (hbody : ∀ (A : Around) (outer : List PySem.Env) (s : Shared) (H : Hp) (E : XK) (f c : Addr) (cl : List (Str × Addr)) (n : Nat), (A.deeper (lmE ⟨q, params, body, scope, caps, [], N⟩ s.heap.objs.size f c cl)).guards = some [] → Room kL (A.deeper (lmE ⟨q, params, body, scope, caps, [], N⟩ s.heap.objs.size f c cl)) →
      Takes (lmX X.prog X.w X.K X.mg X.base A outer s H E ⟨q, params, body, scope, caps, [], N⟩ f c cl) (yE E) → PassesOwn (model X.prog X.w) (lmX X.prog X.w X.K X.mg X.base A outer s H E ⟨q, params, body, scope, caps, [], N⟩ f c cl).A (lmX X.prog X.w X.K X.mg X.base A outer s H E ⟨q, params, body, scope, caps, [], N⟩ f c cl).env (lmX X.prog X.w X.K X.mg X.base A outer s H E ⟨q, params, body, scope, caps, [], N⟩ f c cl).xe →
      PE (lmX X.prog X.w X.K X.mg X.base A outer s H E ⟨q, params, body, scope, caps, [], N⟩ f c cl) body (den X.K (yE E) (bE n)))
    (hq : X.env.qual ++ "<lambda>" = q := by kernel_rfl) (hbind : ∀ (q : Str) (cl : List (Str × Addr)) (pm cv ctv : Value), bindArgs (PySem.W.kla_fn "<lambda>" q params body scope cl pm cv ctv) ⟨[], []⟩ = pure [] := by intros; rfl) (hdef : defaultsOf params X.env = ([], []) := by rfl) (hsc : X.env.scope = sc := by rfl) (hN0 : X.N = N0 := by rfl) (hfn : ∀ x, X.fn x = true := by intro; rfl)
    (hg : Gl X x := by rfl) (hdb : (x == ("__debug__" : Str)) = false := by decide) (he : starEach [.Lambda params body scope lpos] X.env = (false, eval (.Lambda params body scope lpos) X.env) :: starEach [] X.env := by rfl) (hpl : (backTo pos (starEach [] X.env)).any (·.1) = false := by rfl) :
    PE X (.Call (.Name x p) [.Lambda params body scope lpos] [] pos) (den X.K Y (lamM argN is q (fnM np nn fun n => retM (bE n)) mT n)) := by
  subst hnp hnn
  have O : LamOk ⟨q, params, body, scope, caps, [], N⟩ := lamOk_by hok fun q cl pm cv ctv us h => by
    cases us with
    | nil => exact hbind q cl pm cv ctv
    | cons => cases h
  obtain ⟨s1, s2, s3⟩ := site_by hsite
  subst hsc hN0
  have e : (caps ++ []).length = caps.length := by rw [List.append_nil]
  have C := cl_den (k := kL) (bE := bE) O hbody
  rw [show (((⟨q, params, body, scope, caps, [], N⟩ : LamB).caps ++ (⟨q, params, body, scope, caps, [], N⟩ : LamB).ps).length = caps.length) from e] at C
  exact xlam (L := ⟨q, params, body, scope, caps, [], N⟩) n is (fun φ h1 h2 => D φ (by rw [h2]; exact C) h1) O T hgd hr tY hjk hq hdef s1 s2 s3 (fun x _ => hfn x) hg hdb he hpl
end
/-! ### rows -/
section
variable {P : Program} {w : World} {K : PySem.W.Frag} {mg : Str → Option Value} {base : Heap} {k kL : Nat} {x qual q : Str} {st : Stmt} {N ps : List Str} {np nn : Nat} {body : Nat → M Fl} {bq : Bool} {L : LamB} {φ : Clo}
/-- a def that makes lambdas -/
abbrev PrL (P : Program) (w : World) (K : PySem.W.Frag) (mg : Str → Option Value) (base : Heap) (k : Nat) (x qual q : Str) (st : Stmt) (ps : List Str) (m : Fn) : Prop := ∀ f fd, Fun K x qual st f fd → LamK K mg f q → FnG P w K mg base (L2.CX P w) k f fd ps (spM K ps.length m)
theorem prl_mk (S : FnScope N ps (defScope st)) (hN : ps.length ≤ N.length)
    (hbody : ∀ (f : Addr) (cdv : Value) (A : Around) (outer : List PySem.Env) (s : Shared) (H : Hp) (E : XK) (n : Nat), (A.deeper (envOfC qual (defScope st) s.heap.objs.size f cdv)).guards = some [] → Room k (A.deeper (envOfC qual (defScope st) s.heap.objs.size f cdv)) →
      Takes (bodyQ P w K mg base N qual st f cdv A outer s H E) (yE E) → PassesOwn (model P w) (bodyQ P w K mg base N qual st f cdv A outer s H E).A (bodyQ P w K mg base N qual st f cdv A outer s H E).env (bodyQ P w K mg base N qual st f cdv A outer s H E).xe → LamF (bodyQ P w K mg base N qual st f cdv A outer s H E) q →
      PSs (bodyQ P w K mg base N qual st f cdv A outer s H E) (defBody st) (denS K (yE E) (body n))) :
    PrL P w K mg base (k + 1) x qual q st ps (fnM ps.length N.length body) := fun f fd F a => by
  obtain ⟨oc, od, dV, kV, doc, pm, an, cdv, ct, osl, rfl, lk, hcd⟩ := F.ex
  refine fn_ofG lk hcd S (fun vs H Q E h => h.1) fun A outer s H vs Q E hgd hr hsp => ?_
  obtain ⟨n, h⟩ := start_den hN hsp
  exact ⟨_, hbody f cdv A outer s H E n hgd hr (takes_of rfl rfl rfl rfl) (passes_of rfl) (.of a lk), h⟩
theorem prlF (G : PrL P w K mg base k x qual q st ps (fnM np nn body)) : PrL P w K mg base k x qual q st ps (fnQ false np nn body) := G
/-- a def that gets a function value -/
abbrev PrC (P : Program) (w : World) (K : PySem.W.Frag) (mg : Str → Option Value) (base : Heap) (k : Nat) (x qual : Str) (st : Stmt) (ps : List Str) (L : LamB) (φ : Clo) (m : Fn) : Prop := ∀ f fd, Fun K x qual st f fd → FnC P w K mg base k L φ f fd ps (spM K ps.length m)
theorem prc_mk (O : ClOk P w K mg base kL L φ.m) (hq : φ.q = L.q) (S : FnScope N ps (defScope st)) (hN : ps.length ≤ N.length)
    (hbody : ∀ (f : Addr) (cdv : Value) (A : Around) (outer : List PySem.Env) (s : Shared) (H : Hp) (E : XK) (n : Nat), (A.deeper (envOfC qual (defScope st) s.heap.objs.size f cdv)).guards = some [] → Room k (A.deeper (envOfC qual (defScope st) s.heap.objs.size f cdv)) →
      Takes (bodyQ P w K mg base N qual st f cdv A outer s H E) (yE E) → PassesOwn (model P w) (bodyQ P w K mg base N qual st f cdv A outer s H E).A (bodyQ P w K mg base N qual st f cdv A outer s H E).env (bodyQ P w K mg base N qual st f cdv A outer s H E).xe → CloX (bodyQ P w K mg base N qual st f cdv A outer s H E) kL L φ →
      PSs (bodyQ P w K mg base N qual st f cdv A outer s H E) (defBody st) (denS K (yE E) (body n))) :
    PrC P w K mg base (k + 1) x qual st ps L φ (fnM ps.length N.length body) := fun f fd F =>
  fn_denC F S hN O hq fun cdv A outer s H E n hgd hr tk ow hX => hbody f cdv A outer s H E n hgd hr tk ow hX
theorem prcF (G : PrC P w K mg base k x qual st ps L φ (fnM np nn body)) : PrC P w K mg base k x qual st ps L φ (fnQ false np nn body) := G
theorem dfc_row (G : PrC P w K mg base k x x st ps L φ (fnQ bq np nn body)) (Z : FnP K mg x st ps) (e : ps.length = np) : DfC P w K mg base k x ps L φ (fnQ bq np nn body) := by
  obtain ⟨f, fd, hm, F, hb⟩ := Z
  subst e
  exact ⟨⟨f, fd, G f fd F, hm, F.kp, hb⟩, fun n ds st h => fnQ_len h⟩
end
end Dn
/-! Op1: == and != of own instances; isinstance of own classes. -/
namespace Dn
open PySem L2 ClX StX PySem.Spec PyProof.Rows PySem.Calls
end Dn
/-! Op2: == and != of own instances as computations; isinstance of an own class. -/
namespace Dn
open PySem L2 ClX StX PySem.Spec PyProof.Rows PySem.Calls
/-- the built-in types that stand in values -/
abbrev blts : List String := ["NoneType", "bool", "int", "str", "tuple", "list", "dict"]
def tyS (s : S) : PV → Option String
  | .hnd n => match s.sto[n]? with
    | some (.dic _) => some "dict"
    | _ => none
  | d => tyP d
section
variable {Y : WX} {K : PySem.W.Frag} {C : Ctx} {W W' : Vw} {σ : L2.St} {H : Hp} {s : S} {Q : VK} {ca cb : M PV}
theorem tyP_in {d : PV} {t : String} (e : tyP d = some t) : t ∈ blts := by
  cases d <;> cases e <;> decide +kernel
theorem tyS_cases {d : PV} {t : String} (e : tyS s d = some t) : tyP d = some t ∨ ∃ n kvs, d = .hnd n ∧ s.sto[n]? = some (.dic kvs) ∧ t = "dict" := by
  unfold tyS at e
  split at e
  · rename_i n
    split at e
    · rename_i kvs hs
      exact .inr ⟨n, kvs, rfl, hs, (Option.some.inj e).symm⟩
    · cases e
  · exact .inl e
theorem tyS_in {d : PV} {t : String} (e : tyS s d = some t) : t ∈ blts := by
  rcases tyS_cases e with e | ⟨n, kvs, _, _, rfl⟩
  · exact tyP_in e
  · decide +kernel
theorem tyS_rep {d : PV} {v : V} {t : String} (a : At K C W s σ H) (r : Rep K W v d) (e : tyS s d = some t) : TyX K H v (.type t) := by
  rcases tyS_cases e with e | ⟨n, kvs, rfl, hs, rfl⟩
  · exact ty_rep a r e
  · cases r with
    | hnd hn =>
      cases (a.ok.live hn hs (fun z => nomatch z)).2 with
      | dic hH _ => exact .base (.dK hH)
theorem ins_ty {c : Str} {Cc a dx : Addr} {fs : List (Str × V)} (F : C8.InsC K Cc) (h : H a = some (.ins Cc dx fs)) : TyX K H (.ref a) (.ref Cc) := .base (.ins h F.cl F.ha F.hn F.htk F.hm)
/-- what isinstance against the class at D answers -/
structure IsoTab (K : PySem.W.Frag) (D : Addr) (tab : List (Str × Bool)) : Prop where
  own : ∀ c b, tab.lookup c = some b → ∃ C, ClsAt K c C ∧ C8.InsC K C ∧ PySem.W.kitOne K (.ref C) (.ref D) = some b
  blt : ∀ t ∈ blts, PySem.W.kitOne K (.type t) (.ref D) = some false
def isoM (tab : List (Str × Bool)) (d : PV) : M PV := fun s => match insOf s d with
  | some (c, _, _) => (match tab.lookup c with
    | some b => .ok (.bl b) s
    | none => .stk)
  | none => (match tyS s d with
    | some _ => .ok (.bl false) s
    | none => .stk)
theorem den_iso {D : Addr} {tab : List (Str × Bool)} (T : IsoTab K D tab) (h : den K Y (bnd ca (isoM tab)) σ H Q) : tCB (rIsi K) (tCons (den K Y ca) (tCons (tC (.ref D)) tNil)) σ H Q := by
  obtain ⟨C, W, s, at', p⟩ := h
  refine ⟨C, W, s, at', (Pst.bnd p).imp fun d s1 W1 H1 l1 at1 p1 v rv => ?_⟩
  unfold isoM at p1
  cases e : insOf s1 d with
  | some t =>
    obtain ⟨c, ks, vs⟩ := t
    simp only [e] at p1
    cases e2 : tab.lookup c with
    | none => simp only [e2] at p1; exact p1.elim
    | some b =>
      simp only [e2] at p1
      obtain ⟨a, Cc, dx, us, rfl, h1, h2, _, _⟩ := insOf_rep at1 rv e
      obtain ⟨C2, k1, k2, k3⟩ := T.own c b e2
      cases cls_uniq h1 k1
      exact ⟨.ref a, .ref D, .ref _, .ref D, b, rfl, .own D, ins_ty (c := c) k2 h2, k3, p1 W1 H1 (Vw.Le.refl _) at1 _ (.bl b)⟩
  | none =>
    simp only [e] at p1
    cases e2 : tyS s1 d with
    | none => simp only [e2] at p1; exact p1.elim
    | some t =>
      simp only [e2] at p1
      exact ⟨v, .ref D, .type t, .ref D, false, rfl, .own D, tyS_rep at1 rv e2, T.blt t (tyS_in e2), p1 W1 H1 (Vw.Le.refl _) at1 _ (.bl false)⟩
/-! ### == by an own def -/
end
end Dn
/-! Op3: the rules in short: ==, != of own instances; isinstance. -/
namespace Dn
open PySem L2 ClX StX PySem.Spec PyProof.Rows PySem.Calls
section
variable {Y : WX} {X : Cx} {k j n : Nat} {a b e : Expr} {ca cb : M PV} {pos p px : Pos} {tab : List (Str × Fn)} {rel : List ((Str × Str) × Bool)}
theorem xiso {c : Str} {D : Addr} {itab : List (Str × Bool)} (T : IsoTab X.K D itab) (hc : X.mg c = some (.ref D)) (hm : X.mg "isinstance" = none) (ha : PE X a (den X.K Y ca)) (hg : Gl X "isinstance" := by rfl) (hgc : Gl X c := by rfl) (hd : (c == ("__debug__" : Str)) = false := by decide)
    (h1 : starEach [a, .Name c p] X.env = (false, eval a X.env) :: starEach [.Name c p] X.env := by rfl) (h2 : starEach [.Name c p] X.env = (false, eval (.Name c p) X.env) :: starEach [] X.env := by rfl) (hpl : (backTo pos (starEach [.Name c p] X.env)).any (·.1) = false := by rfl) :
    PE X (.Call (.Name "isinstance" px) [a, .Name c p] [] pos) (den X.K Y (bnd ca (isoM itab))) :=
  pe_imp (pe_callB call_isi hg hm PyProof.Rows.Boot.«isinstance» (pa_cons ha (pa_cons (pe_glob hgc hc (show L2.RelV (.ref D) (.ref D) from rfl) hd) pa_nil h2) h1) (by decide) (by decide) h1 hpl) fun _ _ _ => den_iso T
end
end Dn
/-! Op4: str, f-strings, truth, items stored. -/
namespace Dn
open PySem L2 ClX StX PySem.Spec PyProof.Rows PySem.Calls
end Dn
/-! Op5: {}. -/
namespace Dn
open PySem L2 ClX StX PySem.Spec PyProof.Rows PySem.Calls
end Dn
/-! Ev1: a caught exception that is kept as a value behind its try. -/
namespace Dn
open PySem L2 PySem.Spec PyProof.Rows PySem.Calls
section
variable {X : Cx} {pins : List (Addr × Obj)} {σ : L2.St} {H : Hp} {s : Shared}
theorem exv_ok {P : Program} {w : World} {h : Heap} {a : Addr} {cls : Value} {d : Option Addr} {oe : Obj} {vs : Array Value} (e : h.get? a = some oe) (z : Zc cls d oe) (f : oe.data = .fields vs) : ObjOk P w H h a (exv a cls d) :=
  ⟨⟨oe, vs, e, z, f⟩, ⟨oe, e⟩, fun _ _ ⟨oe, vs, e, z, f⟩ k => ⟨oe, vs, k oe e, z, f⟩⟩
theorem Inv.track {a : Addr} {cls : Value} {d : Option Addr} {oe : Obj} {vs : Array Value} (I : Inv X pins σ H s) (e : s.heap.get? a = some oe) (z : Zc cls d oe) (f : oe.data = .fields vs) (na : H a = none)
    (nL : a ≠ X.env.locals) (nP : ∀ p ∈ X.pn ++ pins, p.1 ≠ a) (n0 : a ∉ X.ex → X.s_0.heap.get? a = none) : Inv X pins σ (upd H a (exv a cls d)) s := by
  have ne : ∀ {b : Addr} {u : HO}, H b = some u → b ≠ a := fun {b u} hb z => by rw [z, na] at hb; cases hb
  have B := I.base
  refine ⟨I.ok, I.os, I.bare, ⟨B.keep, B.slot, fun b o h1 h2 h3 => ?_, B.there, fun b xs h => ?_, fun b o u h => ?_, fun b ps h => ?_⟩, I.loc, I.cell, ?_, fun x c h => ?_, fun p hp => ?_, fun b u h => ?_, I.len⟩
  · rw [upd_ne (fun q => by subst q; rw [n0 h3] at h1; cases h1)]
    exact B.free b o h1 h2 h3
  · have := B.tups b xs h
    rw [upd_ne (ne this)]; exact this
  · have := B.frzs b o u h
    rw [upd_ne (ne this)]; exact this
  · obtain ⟨more, h4⟩ := B.tbls b ps h
    exact ⟨more, by rw [upd_ne (ne h4)]; exact h4⟩
  · rw [upd_ne nL.symm]; exact I.free
  · refine (upd_ne fun q => ?_).trans (I.freeC x c h)
    subst q
    obtain ⟨v, oc, h5, h6⟩ := I.cell x c h
    rw [e] at h5
    cases h5
    rw [f] at h6
    cases h6
  · obtain ⟨p1, p2, p3⟩ := I.pin p hp
    exact ⟨p1, by rw [upd_ne (nP p hp)]; exact p2, p3⟩
  · by_cases hb : b = a
    · subst hb
      rw [upd_same] at h
      cases h
      exact exv_ok e z f
    · rw [upd_ne hb] at h
      refine (I.hok b u h).stay (fun _ _ _ q => q) (fun c q => ?_) fun c xs q => ?_
      · rw [upd_ne (ne q)]; exact q
      · rw [upd_ne (ne q)]; exact q
end
/-- what the clause asks of an exception's class -/
def TestK (X : Cx) (te : Expr) (mt : Value → Option Bool) : Prop :=
  ∀ (a : Addr) (pn : List (Addr × Obj)) {σ : L2.St} {H : Hp} {s : Shared} {cls : Value} {b : Bool}, Inv (X.suite a pn) [] σ H s → PySem.W.Looks (model X.prog X.w) s.heap (typeOf (.ref a)) cls → mt cls = some b →
    ∀ {Q : Bool → Shared → Prop} {E : Value → Shared → Prop}, (∀ h', (∀ q o, s.heap.get? q = some o → h'.get? q = some o) → Q b { s with heap := h' }) →
      wpAny (model X.prog X.w) (X.A.mark (some (.ref a))) (eval te X.env) (fun c s₁ => wpAny (model X.prog X.w) (X.A.mark (some (.ref a))) (excMatches (.ref a) c) Q E s₁) E s
theorem _root_.PySem.HandSPX.FlyingZ.keep {B h h' : Heap} {l : List PySem.Env} {a : Addr} {Z : Obj → Prop} (x : HandSPX.FlyingZ B l a Z h) (k : ∀ q o, h.get? q = some o → h'.get? q = some o) : HandSPX.FlyingZ B l a Z h' := by
  obtain ⟨k1, k2, k3, oe, vs, T, oT, ts, he, hz, hd, h1, hT, hne, hoT, hdT, h3⟩ := x
  exact ⟨fun b o e => k b o (k1 b o e), k2, Heap.FunFrames.of_keeps (fun b o e _ => ⟨o, k b o e, rfl⟩) k3, oe, vs, T, oT, ts, k _ _ he, hz, hd, h1, hT, hne, k _ _ hoT, hdT, h3⟩
theorem up_keep {h h' : Heap} (k : ∀ q o, h.get? q = some o → h'.get? q = some o) : h.UpToSlots h' := fun b o e _ => ⟨o.slots, k b o e⟩
section
variable {X : Cx} {x x1 x2 x3 x4 : Str} {c c1 c2 c3 c4 : Value} {np p1 p2 p3 p4 tpos : Pos} {kk : Nat}
theorem ld_names {a : Addr} {pn : List (Addr × Obj)} {σ : L2.St} {H : Hp} {s : Shared} (S3 : Inv (X.suite a pn) [] σ H s) (hc : Names X x c) {Q : Value → Shared → Prop} {E : Value → Shared → Prop} (q : Q c s) : wpAny (model X.prog X.w) (X.A.mark (some (.ref a))) (eval (.Name x np) X.env) Q E s := by
  obtain ⟨hg, hdbg, hm | ⟨hm, hv, hnn⟩⟩ := hc
  · exact ld_glob (X := X.suite a pn) S3 hg hm q hdbg
  · exact ld_blt (X := X.suite a pn) S3 hg hm hv q hnn hdbg
theorem test2 (n1 : Names X x1 c1) (n2 : Names X x2 c2) : TestK X (.Tuple [.Name x1 p1, .Name x2 p2] kk tpos) (fun cls => PySem.W.exmAny X.K cls [c1, c2]) := fun a pn {σ H s cls b} S3 LT hb {Q E} q => by
  refine wpAny_Tuple ?_
  refine wpAny_items_cons (ld_names S3 n1 ?_)
  refine wpAny_items_cons (ld_names S3 n2 ?_)
  refine wpAny_items_nil ⟨by size_fits, ?_⟩
  have kp : ∀ q o, s.heap.get? q = some o → (s.heap.push { cls := .type "tuple", data := .seq [c1, c2].toArray }).get? q = some o := fun _ _ z => Heap.get?_push_of_some _ z
  exact (PySem.W.exm_tup2 (S3.kIn.keeps kp) (LT.keeps kp) (Heap.get?_push_size s.heap rfl) hb).here (q _ kp)
end
/-- what is wanted of an exception: caught, its suite runs; behind it the name is gone, the exception stays a thing of the heap -/
def wKeep (mt : Value → Option Bool) (i j : Nat) (Wout : WX) (D : Ends) : WX := fun cls d σ H =>
  ∃ b, mt cls = some b ∧
    (b = true → i < σ.length ∧ ∀ a, H a = none → D.nx ((σ.set j (some (.ref a))).set i none) (upd H a (exv a cls d))) ∧
    (b = false → Wout cls d σ H)
section
variable {X : Cx} {n y : Str} {te : Expr} {mt : Value → Option Bool} {i j : Nat} {body : List Stmt} {np pos pos' sp yp ep : Pos} {tb : WX → TS} {Wout : WX}
theorem ps_try_keep (hs : X.stack = X.env :: X.outer) (hf : X.env.frame = some X.env.locals) (hN : X.N.Nodup) (hi : X.N[i]? = some n) (hj : X.N[j]? = some y) (hij : j ≠ i) (hln : X.env.kindOf n = some .local) (hc : TestK X te mt) (tk : Takes X Wout)
    (hb : ∀ (W : WX) (pn : List (Addr × Obj)) (xe : Value → Shared → Prop), Takes (X.tr pn xe) W → PassesOwn (model X.prog X.w) X.A X.env xe → PSs (X.tr pn xe) body (tb W))
    (hsu : ∀ (a : Addr) (oe : Obj) (pn : List (Addr × Obj)), PSs (X.suite a ((a, oe) :: pn)) [.Assign [.Name y yp] (.Name n ep) sp] (fun D σ H => tAsg (tVar i) (gName j) D σ H)) :
    PS X (.Try body [.ExceptHandler (some te) (some n) [.Assign [.Name y yp] (.Name n ep) sp] pos'] [] [] pos) (fun D σ H => tb (wKeep mt i j Wout D) D σ H) := by
  refine ⟨fun pins s σ H D I h => ?_⟩
  have ok := I.ok
  have hfr : X.A.frames = some (X.env :: X.outer) := by rw [ok.frames, hs]
  have hloc : Loc X.env.scope n := .inl hln
  refine wpAny_Try_except ?_
  refine wpAny_mono ((hb (wKeep mt i j Wout D) (X.pn ++ pins) (fun e s₁ => wpAny (model X.prog X.w) X.A (noteFrame e X.env) (fun _ s₂ => wpAny (model X.prog X.w) X.A (setFlight e none) (fun _ s₃ =>
    wpAny (model X.prog X.w) X.A (handleBy e X.env [.ExceptHandler (some te) (some n) [.Assign [.Name y yp] (.Name n ep) sp] pos']) (SP X pins D) X.xe s₃) X.xe s₂) X.xe s₁) (fun u s' xx => ?_) PassesOwn.looking).run [] s σ H D (I.toTry _) h) (fun f s1 hsp => ?_) (fun e s1 he => he)
  · -- the catch
    obtain ⟨a, B, sI, pins', σ', H', cls, d, rfl, J', nb, up, sky, na, os, ag, b, hb1, hyes, hno⟩ := xx
    have J : Inv X pins σ' H' sI := J'.ofTry ok
    have sky' : Sky B (X.env :: X.outer) a (Zc cls d) X.env.locals s'.heap := by rw [← hs]; exact sky
    show wpAny (model X.prog X.w) X.A (noteFrame (.ref a) X.env) _ _ _
    refine Sky.land Zc.steady hfr hf sky' fun h3 fl3 up3 => ?_
    have J3 : Inv X pins σ' H' { s' with heap := h3 } := J.landed nb fl3.1 (up.trans up3) os ag
    obtain ⟨oe3, vs3, he3, hz3, hd3⟩ := fl3.there
    have notFr : ∀ {h : Heap} {o : Obj} {vs : Array Value}, h.FunFrames B (X.env :: X.outer) → h.get? a = some o → o.data = .fields vs → a ∉ frs (X.env :: X.outer) := fun {h o vs} ff e dd hm => by
      obtain ⟨_, o', e', hnf⟩ := ff.mem hm
      rw [e] at e'; cases e'
      exact hnf _ dd
    have nfr := notFr fl3.2.2.1 he3 hd3
    have nL : a ≠ X.env.locals := fun z => nfr (List.mem_filterMap.mpr ⟨X.env, List.mem_cons_self, by rw [hf, z]⟩)
    have nF : a ∉ X.fs := fun hm => by
      obtain ⟨e, he, q⟩ := List.mem_filterMap.mp hm
      exact nfr (List.mem_filterMap.mpr ⟨e, List.mem_cons_of_mem _ he, q⟩)
    have nB : B.get? a = none := fl3.2.1
    have nI : ∀ o, sI.heap.get? a = some o → False := fun o e => by
      have := nb a o e (by rw [hs]; exact nfr)
      rw [nB] at this; cases this
    have nP : ∀ p ∈ X.pn ++ pins, p.1 ≠ a := fun p hp z => nI p.2 (by rw [← z]; exact (J.pin p hp).1)
    have n0 : a ∉ X.ex → X.s_0.heap.get? a = none := fun hx => by
      cases e : X.s_0.heap.get? a with
      | none => rfl
      | some o =>
        obtain ⟨o', e'⟩ := J.base.there a o e hx
        exact (nI o' e').elim
    have S3 := J3.suite he3 hd3 na nL nF
    refine wpAny_handleBy_cons (codeAny_handlers_test ?_) (by intro q; cases q)
    have LT : PySem.W.Looks (model X.prog X.w) h3 (typeOf (.ref a)) cls := fun A Q E s k q => wpAny_typeOf_ref (k _ _ he3) (by rw [hz3.1]; exact q)
    refine hc a _ S3 LT hb1 fun h6 k6 => ?_
    have fl6 := fl3.keep k6
    have up6 := up3.trans (up_keep k6)
    cases b with
    | true =>
      refine codeAny_handlers_suite_as ?_
      refine HandSPX.lands_againZ fl6 fun h4 fl4 up4 => ?_
      have J4 : Inv X pins σ' H' { s' with heap := h4 } := J.landed nb fl4.1 ((up.trans up6).trans up4) os ag
      obtain ⟨oe4, vs4, he4, hz4, hd4⟩ := fl4.there
      have S4 := J4.suite he4 hd4 na nL nF
      obtain ⟨hil, hnx⟩ := hyes rfl
      refine store_ok (X := X.suite a ((a, oe4) :: (X.pn ++ pins))) (v := .ref a) S4 hN hi hloc rfl (fun s5 S5 => ?_) (.inr hln)
      refine wpAny_mono ((hsu a oe4 (X.pn ++ pins)).run [] s5 (σ'.set i (some (.ref a))) H' { nx := fun σ6 H6 => σ6 = (σ'.set i (some (.ref a))).set j (some (.ref a)) ∧ H6 = H', rt := fun _ _ => False, bk := fun _ _ => False, ct := fun _ _ => False } S5 ⟨.ref a, List.getElem?_set_self hil, rfl, rfl⟩) (fun f s6 hsp => ?_) (fun _ _ z => False.elim z)
      cases f with
      | next =>
        obtain ⟨σ6, H6, S6, rfl, rfl⟩ := hsp
        obtain ⟨g6, _⟩ := S6.pin (a, oe4) (List.mem_append_left _ List.mem_cons_self)
        have T6 := Dn.Inv.track (S6.unsuite ok) (cls := cls) (d := d) g6 hz4 hd4 na nL nP n0
        refine gone_ok T6 hN hi hln fun s7 J7 => ⟨_, _, J7, ?_⟩
        have e1 : ((σ'.set i (some (.ref a))).set j (some (.ref a))).set i none = (σ'.set j (some (.ref a))).set i none := by
          rw [List.set_comm _ _ hij.symm, List.set_set]
        rw [e1]
        exact hnx a na
      | brk =>
        obtain ⟨σ6, H6, S6, q6⟩ := hsp
        exact q6.elim
      | cont =>
        obtain ⟨σ6, H6, S6, q6⟩ := hsp
        exact q6.elim
      | ret u =>
        obtain ⟨v6, σ6, H6, S6, r6, q6⟩ := hsp
        exact q6.elim
    | false =>
      show wpAny _ X.A (handleBy (.ref a) X.env []) _ _ _
      refine wpAny_handleBy_nil ?_
      obtain ⟨k1, k2, k3, oe, vs, T, oT, ts', he, hz, hd, h1, hr⟩ := id fl6
      unfold PySem.passOn
      refine wpAny_bind (wpAny_field he hd h1 ?_)
      rw [if_neg (show ¬ ((Value.ref T == Value.none) = true) from by simp)]
      have fin : wpAny (model X.prog X.w) X.A (setFlight (.ref a) X.env.frame) (fun _ s4 => wpAny (model X.prog X.w) X.A (throw (.ref a) : Sem Flow) (SP X pins D) X.xe s4) X.xe { s' with heap := h6 } := by
        rw [hf]
        refine HandSPX.setFlight_upZ fl6 fun h4 hh4 up4 => wpAny_throw (tk _ _ ?_)
        exact ⟨a, B, sI, pins, σ', H', cls, d, rfl, J, nb, (up.trans up6).trans up4, .inr (.inr (by rw [hs]; exact hh4)), na, os, ag, hno rfl⟩
      first
        | exact wpAny_bind (wpAny_pure (wpAny_bind fin))
        | exact wpAny_bind fin
  · cases f with
    | next =>
      obtain ⟨σ', H', J', q⟩ := hsp
      exact wpAny_execs_nil ⟨σ', H', J'.ofTry ok, q⟩
    | brk =>
      obtain ⟨σ', H', J', q⟩ := hsp
      exact ⟨σ', H', J'.ofTry ok, q⟩
    | cont =>
      obtain ⟨σ', H', J', q⟩ := hsp
      exact ⟨σ', H', J'.ofTry ok, q⟩
    | ret u =>
      obtain ⟨v, σ', H', J', r, q⟩ := hsp
      exact ⟨v, σ', H', J'.ofTry ok, r, q⟩
end
end Dn
/-! Ev2: try .. except C as e: y = e; the kept exception's fields; isinstance of it; {"a": 1} as a value. -/
namespace Dn
open PySem L2 ClX StX PySem.Spec PyProof.Rows
def keepM (tab : List (Str × Bool)) (i j : Nat) (fa : M Fl) : M Fl := fun s => match fa s with
  | .exc (.obj c ks vs) s' => (match tab.lookup c with
    | some true => if i < s'.env.length ∧ j < s'.env.length then .ok .nx { s' with env := (s'.env.set j (some (.val (.exn c ks vs)))).set i none } else .stk
    | some false => .exc (.obj c ks vs) s'
    | none => .stk)
  | .exc _ _ => .stk
  | r => r
/-- which exceptions the clause takes -/
def KpTab (K : PySem.W.Frag) (mt : Value → Option Bool) (tab : List (Str × Bool)) : Prop := ∀ c b, tab.lookup c = some b → ∃ C, ClsAt K c C ∧ mt (.ref C) = some b
section
variable {Y : WX} {K : PySem.W.Frag} {D : Ends} {σ : L2.St} {H : Hp} {tab : List (Str × Bool)} {fa fb : M Fl} {cv : Value} {C : Ctx} {W : Vw} {i j : Nat}
theorem At.del {s : S} (h : At K C W s σ H) (i : Nat) : At K C W { s with env := s.env.set i none } (σ.set i none) H := by
  have ne : ∀ {m : Nat} {sv : SV}, (s.env.set i none)[m]? = some (some sv) → i ≠ m := fun {m sv} he hm => by
    subst hm
    have hi : i < s.env.length := by
      have := (List.getElem?_eq_some_iff.mp he).1
      rwa [List.length_set] at this
    rw [List.getElem?_set_self hi] at he
    cases he
  refine ⟨h.ok, h.keep, h.pre, h.gro, by rw [List.length_set, List.length_set]; exact h.len, fun j e he => ?_, fun j ys he => ?_, fun j k ys zs a h1 h2 h3 h4 => ?_⟩
  · have n1 := ne he
    rw [List.getElem?_set_ne n1] at he ⊢
    exact h.val j e he
  · have n1 := ne he
    rw [List.getElem?_set_ne n1] at he ⊢
    exact h.own j ys he
  · have n1 := ne h1
    have n2 := ne h2
    rw [List.getElem?_set_ne n1] at h1 h3
    rw [List.getElem?_set_ne n2] at h2 h4
    exact h.dst j k ys zs a h1 h2 h3 h4
theorem den_keep {mt : Value → Option Bool} (T : KpTab K mt tab) (h : denS K Y (keepM tab i j fa) D σ H) : denS K (wKeep mt i j Y D) fa D σ H := by
  obtain ⟨C, W, s, at', p⟩ := h
  refine ⟨C, W, s, at'.wi _, ?_⟩
  unfold keepM at p
  cases e : fa s with
  | stk => simp only [e] at p; exact p.elim
  | ok fl s' =>
    simp only [e] at p
    exact p.other (fun _ _ z => nomatch z)
  | exc x s' =>
    simp only [e] at p
    cases x <;> try exact p.elim
    rename_i c ks vs
    dsimp only at p
    split at p
    · rename_i hb
      intro W' σ' H' cls d l a r
      obtain ⟨C1, k1, k2⟩ := T c true hb
      cases r with
      | own hc hx hl rs =>
        cases cls_uniq hc k1
        refine ⟨true, k2, fun _ => ?_, fun z => nomatch z⟩
        split at p
        · rename_i hij
          refine ⟨by rw [a.len]; exact hij.1, fun a0 na => ?_⟩
          obtain ⟨l2, a2⟩ := (a.wi Y).lay na (exv a0 (.ref C1) (some _))
          have rep : Rep K ⟨upd W'.F a0 (exv a0 (.ref C1) (some _)), W'.hs⟩ (.ref a0) (.exn c ks vs) := .exn k1 upd_same (l2.ex _ _ hx) hl (rs.mono l2)
          exact p _ _ _ (l.trans l2) ((a2.set rep j).del i)
        · exact p.elim
    · rename_i hb
      intro W' σ' H' cls d l a r
      obtain ⟨C1, k1, k2⟩ := T c false hb
      have hcls : cls = .ref C1 := by
        cases r with
        | own hc _ _ _ => rw [cls_uniq hc k1]
      subst hcls
      exact ⟨false, k2, (fun z => nomatch z), fun _ => p W' σ' H' _ d l (a.wi Y) r⟩
    · exact p.elim
end
section
variable {Y : WX} {X : Cx} {k i j : Nat} {n y : Str} {te : Expr} {mt : Value → Option Bool} {etab : List (Str × Bool)} {pos p p1 sp yp ep : Pos} {body : List Stmt} {fa : M Fl} {cv : Value}
theorem skeep (i j : Nat) (T : KpTab X.K mt etab) (hc : TestK X te mt) (tY : Takes X Y) (nd : X.N.Nodup)
    (hb : ∀ (W : WX) (pn : List (Addr × Obj)) (xe : Value → Shared → Prop), Takes (X.tr pn xe) W → PassesOwn (model X.prog X.w) X.A X.env xe → PSs (X.tr pn xe) body (denS X.K W fa))
    (hn : (n == ("__debug__" : Str)) = false := by decide) (hn2 : (n == ("__classdict__" : Str)) = false := by decide)
    (hi : X.N[i]? = some n := by rfl) (hj : X.N[j]? = some y := by rfl) (hij : j ≠ i := by decide) (hln : X.env.kindOf n = some .local := by rfl) (hlx : Vis X.env.scope n := by first | exact Or.inl rfl | exact Or.inr rfl) (hly : Loc X.env.scope y := by first | exact Or.inl rfl | exact Or.inr rfl)
    (hlf : X.env.scope.names.lookup y = some .local := by rfl)
    (hsw : swapsWith (.Name n ep) (some (.Name y yp)) sp.line X.env = pure false := by rfl)
    (hs : X.stack = X.env :: X.outer := by rfl) (hf : X.env.frame = some X.env.locals := by rfl) :
    PS X (.Try body [.ExceptHandler (some te) (some n) [.Assign [.Name y yp] (.Name n ep) sp] p1] [] [] pos) (denS X.K Y (keepM etab i j fa)) :=
  ps_imp (ps_try_keep (tb := fun W => denS X.K W fa) (Wout := Y) hs hf nd hi hj hij hln hc tY hb fun a oe pn => pss_cons (ps_imp (ps_set (X := X.suite a ((a, oe) :: pn)) nd hj hly (pe_var hi hlx hn hn2) hsw (.inr hlf)) fun _ _ _ h => h) pss_nil) fun D σ H h => den_keep T h
end
end Dn
/-! Ev3: a kept exception's fields; isinstance of it; {"a": 1} as a value and its repr. -/
namespace Dn
open PySem L2 ClX StX PySem.Spec PyProof.Rows
/-! ### e.f -/
def tXfl (K : PySem.W.Frag) (f : Str) (te : TE) : TE := fun σ H Q => te σ H fun x H1 => ∃ (a C dd : Addr) (fs : List (Str × V)) (v : V), x = .ref a ∧ H1 a = some (exv a (.ref C) (some dd)) ∧ H1 dd = some (.xd fs) ∧ fs.lookup f = some v ∧ XfC K C ∧ PySem.W.findIn K (.ref C) f = some none ∧ Q v H1
theorem pe_xfl {X : Cx} {e : Expr} {te : TE} {pos : Pos} {n : Str} (he : PE X e te) (hb : attributeBase e n X.env (eval e X.env) = eval e X.env := by rfl) : PE X (.Attribute e n pos) (tXfl X.K n te) := by
  refine ⟨fun pins s σ H Q I h => ?_⟩
  refine attr_of hb (thn (he.run pins s σ H _ I h) fun u s1 hh => ?_)
  obtain ⟨x, H1, I1, rx, a, C, dd, fs, v, ex, eh, ea, l, T, hno, q⟩ := hh
  subst ex
  obtain rfl : u = Value.ref a := rx
  obtain ⟨⟨oe, vs, ha, hz, hd⟩, _⟩ := (show ObjOk X.prog X.w H1 s1.heap a (exv a (.ref C) (some dd)) from I1.hok a _ eh)
  have hx : ObjOk X.prog X.w H1 s1.heap dd (.xd fs) := I1.hok dd _ ea
  obtain ⟨mA, hns, hr⟩ := hx
  obtain ⟨od, ho, hl⟩ := lookIn_ns hns
  obtain ⟨u, hu, ru⟩ := RelO.some_of (v := v) (o := mA n) (by rw [← l]; exact hr n)
  have J : PySem.W.InstAt s1.heap a oe C (some od) := ⟨ha, hz.1, by unfold PySem.W.notCls; rw [hd] <;> rfl, by rw [hz.2]; exact ho⟩
  exact HandSPX.exc_get I1.kIn J T.ga T.gg T.exC (PySem.W.findObj_own T.hdC hno rfl (by rw [hl, hu])) (handed_of ru) ⟨v, H1, I1.tok _, ru, q⟩
def XFldOk (K : PySem.W.Frag) (f : Str) (cs : List Str) : Prop := ∀ c ∈ cs, ∃ C, ClsAt K c C ∧ XfC K C ∧ PySem.W.findIn K (.ref C) f = some none
def xfldM (cs : List Str) (f : Str) (d : PV) : M PV := fun s => match d with
  | .exn c ks vs => if c ∈ cs then (match (ks.zip vs).lookup f with
    | some v => .ok v s
    | none => .stk) else .stk
  | _ => .stk
section
variable {Y : WX} {K : PySem.W.Frag} {σ : L2.St} {H : Hp} {C : Ctx} {W : Vw} {s : S} {Q : VK} {ca : M PV} {f : Str}
theorem den_xfld {cs : List Str} (F : XFldOk K f cs) (h : den K Y (bnd ca (xfldM cs f)) σ H Q) : tXfl K f (den K Y ca) σ H Q := by
  obtain ⟨C, W, s, at', p⟩ := h
  refine ⟨C, W, s, at', (Pst.bnd p).imp fun d s1 W1 H1 l1 at1 p1 x rx => ?_⟩
  unfold xfldM at p1
  cases d <;> try exact p1.elim
  rename_i c ks vs
  dsimp only at p1
  split at p1
  · rename_i hc
    split at p1
    · rename_i v hv
      cases rx with
      | exn h1 h2 h3 l ru =>
        obtain ⟨C2, k1, k2, k3⟩ := F c hc
        cases cls_uniq h1 k1
        obtain ⟨v', e2, r2⟩ := zip_look ru hv
        exact ⟨_, _, _, _, v', rfl, at1.ok.sub _ _ h2, at1.ok.sub _ _ h3, e2, k2, k3, p1 W1 H1 (Vw.Le.refl _) at1 _ r2⟩
    · exact p1.elim
  · exact p1.elim
/-! ### isinstance -/
structure ExnC (K : PySem.W.Frag) (C : Addr) : Prop where
  cl : (PySem.W.clsIn K C).isSome = true
  ga : PySem.W.findIn K (.ref C) "__getattribute__" = some (some (.builtin "BaseException.__getattribute__"))
  gg : PySem.W.findIn K (.ref C) "__getattr__" = some none
  sb : PySem.W.subIn K (.ref C) (.type "BaseException") = some true
  ca : PySem.W.findIn K (.ref C) "__class__" = some (some (.builtin "object.__class__"))
  sg : PySem.W.specialIn K (.builtin "object.__class__") "__get__" = some (some (.builtin "getset_descriptor.__get__"))
  tk : PySem.W.takesIn K (.builtin "object.__class__") = some true
  mo : PySem.W.mroIn K C (.type "object") = some true
/-- a value's type, an exception's too -/
def TyV (K : PySem.W.Frag) (H : Hp) (x : V) (t : Value) : Prop := TyX K H x t ∨ ∃ a C dd fs, x = .ref a ∧ t = .ref C ∧ H a = some (exv a (.ref C) (some dd)) ∧ H dd = some (.xd fs) ∧ ExnC K C
theorem kit_ofV {X : Cx} {pins : List (Addr × Obj)} {s : Shared} {x : V} {u t : Value} (I : Inv X pins σ H s) (rx : RelV x u) (ty : TyV X.K H x t) : ∃ P : Heap → Prop, PySem.W.KitX X.K u t P ∧ P s.heap ∧ u ≠ .builtin "__main__.__loader__#opaque" := by
  rcases ty with ty | ⟨a, C, dd, fs, rfl, rfl, eh, ea, T⟩
  · exact kit_of I rx ty
  · obtain rfl : u = Value.ref a := rx
    obtain ⟨⟨oe, vs, ha, hz, hd⟩, _⟩ := (show ObjOk X.prog X.w H s.heap a (exv a (.ref C) (some dd)) from I.hok a _ eh)
    obtain ⟨mA, hns, hr⟩ := (show ObjOk X.prog X.w H s.heap dd (.xd fs) from I.hok dd _ ea)
    obtain ⟨od, ho, hl⟩ := lookIn_ns hns
    have J : PySem.W.InstAt s.heap a oe C (some od) := ⟨ha, hz.1, by unfold PySem.W.notCls; rw [hd] <;> rfl, by rw [hz.2]; exact ho⟩
    exact ⟨_, PySem.W.kitx_exc (ox := oe) (od := some od) T.cl T.ga T.gg T.sb T.ca T.sg T.tk T.mo, J, fun z => nomatch z⟩
def rIsiV (K : PySem.W.Frag) : List V → Hp → VK → Prop := fun xs H Q => ∃ (x c : V) (t u : Value) (b : Bool), xs = [x, c] ∧ ClsV c u ∧ TyV K H x t ∧ PySem.W.kitOne K t u = some b ∧ Q (.bl b) H
def rIsiTV (K : PySem.W.Frag) : List V → Hp → VK → Prop := fun xs H Q => ∃ (x : V) (tp : Addr) (cs : List V) (t : Value) (us : List Value) (b : Bool), xs = [x, .ref tp] ∧ H tp = some (.tup cs) ∧ Paired ClsV cs us ∧ TyV K H x t ∧ PySem.W.kitAny K t us = some b ∧ Q (.bl b) H
theorem call_isiV {X : Cx} : CallR X (.builtin "isinstance") (rIsiV X.K) := by
  intro pins s σ H xs us Q I r h
  obtain ⟨x, c, t, u, b, rfl, k, ty, e, q⟩ := h
  obtain ⟨u1, u2, rfl, r1, r2⟩ := vals2 r
  have e2 := k.eq r2
  subst e2
  obtain ⟨P, Z, p, hx⟩ := kit_ofV I r1 ty
  exact PySem.W.kia_one Z I.kIn p e hx fun tk => ⟨.bl b, H, I.tok tk, rfl, q⟩
theorem call_isiTV {X : Cx} : CallR X (.builtin "isinstance") (rIsiTV X.K) := by
  intro pins s σ H xs us Q I r h
  obtain ⟨x, tp, cs, t, ws, b, rfl, hT, k, ty, e, q⟩ := h
  obtain ⟨u1, u2, rfl, r1, r2⟩ := vals2 r
  cases (show u2 = Value.ref tp from r2)
  obtain ⟨P, Z, p, hx⟩ := kit_ofV I r1 ty
  obtain ⟨_, its, rv, o, h1, h2, n, h3⟩ := (show ObjOk X.prog X.w H s.heap tp (.tup cs) from I.hok tp _ hT)
  have e3 := ClsV.all k rv
  subst e3
  obtain ⟨oc, od, dt, sl⟩ := o
  simp only at h2 h3
  subst h2 h3
  exact PySem.W.kia_tup Z I.kIn p h1 e hx fun tk => ⟨.bl b, H, I.tok tk, rfl, q⟩
/-- what isinstance against those classes answers -/
structure IxTab (K : PySem.W.Frag) (us : List Value) (tab : List (Str × Bool)) : Prop where
  own : ∀ c b, tab.lookup c = some b → ∃ C, ClsAt K c C ∧ ExnC K C ∧ PySem.W.kitAny K (.ref C) us = some b
  blt : ∀ t ∈ blts, PySem.W.kitAny K (.type t) us = some false
def ixM (tab : List (Str × Bool)) (d : PV) : M PV := fun s => match d with
  | .exn c _ _ => (match tab.lookup c with
    | some b => .ok (.bl b) s
    | none => .stk)
  | d => (match tyS s d with
    | some _ => .ok (.bl false) s
    | none => .stk)
theorem ix_of {us : List Value} {tab : List (Str × Bool)} {d : PV} {v : V} (T : IxTab K us tab) (at1 : At K C W s σ H) (rv : Rep K W v d) {Q : PV → S → Vw → Hp → Prop} (p1 : Pst K C W σ (ixM tab d s) Q) :
    ∃ t b, TyV K H v t ∧ PySem.W.kitAny K t us = some b ∧ Q (.bl b) s W H := by
  unfold ixM at p1
  split at p1
  · rename_i c ks vs
    split at p1
    · rename_i b hb
      obtain ⟨C2, k1, k2, k3⟩ := T.own c b hb
      cases rv with
      | exn h1 h2 h3 l ru =>
        cases cls_uniq h1 k1
        exact ⟨_, b, .inr ⟨_, _, _, _, rfl, rfl, at1.ok.sub _ _ h2, at1.ok.sub _ _ h3, k2⟩, k3, p1 W H (Vw.Le.refl _) at1⟩
    · exact p1.elim
  · split at p1
    · rename_i t e
      exact ⟨_, false, .inl (tyS_rep at1 rv e), T.blt t (tyS_in e), p1 W H (Vw.Le.refl _) at1⟩
    · exact p1.elim
theorem kit1 {t u : Value} {b : Bool} (h : PySem.W.kitAny K t [u] = some b) : PySem.W.kitOne K t u = some b := by
  unfold PySem.W.kitAny at h
  split at h
  · rename_i e
    rw [← h]; exact e
  · rename_i e
    unfold PySem.W.kitAny at h
    rw [← h]; exact e
  · cases h
theorem den_ix {cvv : V} {u : Value} {tab : List (Str × Bool)} (hu : ClsV cvv u) (T : IxTab K [u] tab) (h : den K Y (bnd ca (ixM tab)) σ H Q) : tCB (rIsiV K) (tCons (den K Y ca) (tCons (tC cvv) tNil)) σ H Q := by
  obtain ⟨C, W, s, at', p⟩ := h
  refine ⟨C, W, s, at', (Pst.bnd p).imp fun d s1 W1 H1 l1 at1 p1 v rv => ?_⟩
  obtain ⟨t, b, ty, k, q⟩ := ix_of T at1 rv p1
  exact ⟨v, cvv, t, u, b, rfl, hu, ty, kit1 k, q _ (.bl b)⟩
end
section
variable {Y : WX} {X : Cx} {e : Expr} {ce ca : M PV} {f : Str} {pos p px : Pos}
theorem xxf {cs : List Str} (F : XFldOk X.K f cs) (he : PE X e (den X.K Y ce)) (hb : attributeBase e f X.env (eval e X.env) = eval e X.env := by rfl) : PE X (.Attribute e f pos) (den X.K Y (bnd ce (xfldM cs f))) := pe_imp (pe_xfl he hb) fun _ _ _ => den_xfld F
/-- isinstance(e, C): a class of the program, a built-in one -/
theorem xixB {a : Expr} {x : Str} {nm : String} {tab : List (Str × Bool)} (T : IxTab X.K [.type nm] tab) (hm : X.mg "isinstance" = none) (hx : X.mg x = none) (hv : bootBuiltins x = some (.type nm)) (ha : PE X a (den X.K Y ca)) (hn : x ≠ "__name__" := by decide) (hd : (x == ("__debug__" : Str)) = false := by decide) (hg : Gl X "isinstance" := by rfl) (hgx : Gl X x := by rfl)
    (h1 : starEach [a, .Name x p] X.env = (false, eval a X.env) :: starEach [.Name x p] X.env := by rfl) (h2 : starEach [.Name x p] X.env = (false, eval (.Name x p) X.env) :: starEach [] X.env := by rfl) (hpl : (backTo pos (starEach [.Name x p] X.env)).any (·.1) = false := by rfl) :
    PE X (.Call (.Name "isinstance" px) [a, .Name x p] [] pos) (den X.K Y (bnd ca (ixM tab))) := pe_imp (pe_callB call_isiV hg hm PyProof.Rows.Boot.«isinstance» (pa_cons ha (pa_cons (pe_bltn hgx hx hv (show RelV (.ty nm) (.type nm) from rfl) hn hd) pa_nil h2) h1) (by decide) (by decide) h1 hpl) fun _ _ _ => den_ix (.ty nm) T
theorem xixC {a : Expr} {x : Str} {D : Addr} {tab : List (Str × Bool)} (T : IxTab X.K [.ref D] tab) (hm : X.mg "isinstance" = none) (hx : X.mg x = some (.ref D)) (ha : PE X a (den X.K Y ca)) (hd : (x == ("__debug__" : Str)) = false := by decide) (hg : Gl X "isinstance" := by rfl) (hgx : Gl X x := by rfl)
    (h1 : starEach [a, .Name x p] X.env = (false, eval a X.env) :: starEach [.Name x p] X.env := by rfl) (h2 : starEach [.Name x p] X.env = (false, eval (.Name x p) X.env) :: starEach [] X.env := by rfl) (hpl : (backTo pos (starEach [.Name x p] X.env)).any (·.1) = false := by rfl) :
    PE X (.Call (.Name "isinstance" px) [a, .Name x p] [] pos) (den X.K Y (bnd ca (ixM tab))) := pe_imp (pe_callB call_isiV hg hm PyProof.Rows.Boot.«isinstance» (pa_cons ha (pa_cons (pe_glob hgx hx (show RelV (.ref D) (.ref D) from rfl) hd) pa_nil h2) h1) (by decide) (by decide) h1 hpl) fun _ _ _ => den_ix (.own D) T
end
end Dn
/-! Ev4: {} and {"a": 1} as values that never change. -/
namespace Dn
open PySem L2 ClX StX PySem.Spec PyProof.Rows PySem.Calls
section
variable {Y : WX} {K : PySem.W.Frag} {σ : L2.St} {H : Hp} {s : S} {Q : VK}
theorem At.layD {C : Ctx} {W : Vw} {p : Addr} {kvs : List (Str × Int)} (h : At K C W s σ H) (hp : H p = none) : ∃ W', W.Le W' ∧ At K C W' s σ (upd H p (.dK (kvs.map fun q => (Sum.inr q.1, V.int q.2)))) ∧ Rep K W' (.ref p) (.dic kvs) := by
  obtain ⟨l, h'⟩ := h.lay hp (.dK (kvs.map fun q => (Sum.inr q.1, V.int q.2)))
  exact ⟨_, l, h', .dic upd_same⟩
theorem den_dF0 (h : den K Y (ret (.dic [])) σ H Q) : tDNewK σ H Q := by
  obtain ⟨C, W, s, at', p⟩ := h
  intro q hq
  obtain ⟨W', l3, at3, r3⟩ := at'.layD (kvs := []) hq
  exact p W' _ l3 at3 _ r3
theorem xdF0 {X : Cx} {pos : Pos} : PE X (.Dict [] [] pos) (den X.K Y (ret (.dic []))) := pe_imp pe_dnewK fun _ _ _ => den_dF0
theorem den_dF1 {k : Str} {i : Int} (h : den K Y (ret (.dic [(k, i)])) σ H Q) : tDisp (trsOf K Y [(k, ret (.int i))]) σ H Q := by
  obtain ⟨C, W, s, at', p⟩ := h
  intro q hq
  obtain ⟨hG, hh⟩ := at'.nohs hq
  have p0 : Pst K (C.wi Y) W σ (prsM [(k, ret (.int i))] s) (fun kvs s' W' H' => kvs = [(Sum.inr k, .int i)] ∧ s' = s) := fun _ _ _ _ => ⟨rfl, rfl⟩
  have p1 := p0.res (o := .dK []) hG hh
  refine den_prs (C := C.res q (.dK [])) [(k, ret (.int i))] (at'.resIn hq (.dK [])) (p1.imp fun kvs s1 W1 H1 l1 at1 p2 r hr => ?_)
  obtain ⟨e1, e2, at2⟩ := at1.resOut hG hh
  have hp : H1 q = some (.dK []) := (at1.keep q _ upd_same hh).eq fun _ z => nomatch z
  obtain ⟨rfl, rfl⟩ := p2
  have hr1 : r = [(Sum.inr k, V.int i)] := by
    cases hr with
    | cons rv rr =>
      cases rr
      cases rv
      rfl
  subst hr1
  refine ⟨hp, _, rfl, by simp, ?_⟩
  obtain ⟨W', l3, at3, r3⟩ := at2.layD (kvs := [(k, i)]) e1
  have p3 := p W' _ (l1.trans l3) at3 _ r3
  have e3 : upd (del H1 q) q (.dK (mergeK [] [((Sum.inr k : Key), V.int i)])) = upd H1 q (.dK (mergeK [] [((Sum.inr k : Key), V.int i)])) := by
    rw [← e2, upd_upd, e2]
  rw [← e3]
  exact p3
end
theorem xdF1 {Y : WX} {X : Cx} {keys : List (Option Expr)} {values : List Expr} {pos : Pos} {k : Str} {i : Int} (h : PPs X pos keys values (trsOf X.K Y [(k, ret (.int i))])) (hall : keys.all (·.isSome) = true := by rfl) (hl : keys.length = values.length := by rfl) (h0 : keys ≠ [] := by exact fun z => by cases z) (h15 : keys.length ≤ 15 := by decide) :
    PE X (.Dict keys values pos) (den X.K Y (ret (.dic [(k, i)]))) := pe_imp (pe_disp h hall hl h0 h15) fun _ _ _ => den_dF1
end Dn
/-! Fz: rows of isinstance, of == of own instances. -/
namespace Dn
open PySem L2 ClX StX NdefX PySem.Spec PyProof.Rows
section
variable {P : Program} {w : World} {K : PySem.W.Frag} {mg : Str → Option Value} {base : Heap} {k np n nn : Nat} {m qual x c c2 dn : Str} {st : Stmt} {ps ks : List Str} {body : Nat → M Fl} {b : Bool} {bq : Bool}
structure Blt7 (r : String → Prop) : Prop where
  a1 : r "NoneType"
  a2 : r "bool"
  a3 : r "int"
  a4 : r "str"
  a5 : r "tuple"
  a6 : r "list"
  a7 : r "dict"
theorem Blt7.all {r : String → Prop} (h : Blt7 r) : ∀ t ∈ blts, r t := by
  intro t ht
  simp only [List.mem_cons, List.not_mem_nil, or_false] at ht
  rcases ht with rfl | rfl | rfl | rfl | rfl | rfl | rfl
  · exact h.a1
  · exact h.a2
  · exact h.a3
  · exact h.a4
  · exact h.a5
  · exact h.a6
  · exact h.a7
theorem iso0 {D : Addr} (h : Blt7 fun t => PySem.W.kitOne K (.type t) (.ref D) = some false) : IsoTab K D [] := ⟨fun c b h => (by cases h), h.all⟩
theorem isoC {C D : Addr} {tab : List (Str × Bool)} (h1 : ClsAt K c C) (h2 : C8.InsC K C) (h3 : PySem.W.kitOne K (.ref C) (.ref D) = some b) (t : IsoTab K D tab) : IsoTab K D ((c, b) :: tab) := ⟨fun c' b' l => by
  rcases look_cons l with ⟨rfl, rfl⟩ | l
  · exact ⟨C, h1, h2, h3⟩
  · exact t.own _ _ l, t.blt⟩
end
end Dn
/-! Ev5: rows of kept exceptions. -/
namespace Dn
open PySem L2 ClX StX PySem.Spec PyProof.Rows
section
variable {K : PySem.W.Frag} {f c : Str} {C : Addr} {us : List Value} {b : Bool}
theorem xf0 : XFldOk K f [] := fun c h => nomatch h
theorem xfC {cs : List Str} (h1 : ClsAt K c C) (h2 : XfC K C) (h3 : PySem.W.findIn K (.ref C) f = some none) (t : XFldOk K f cs) : XFldOk K f (c :: cs) := fun c' h => by
  rcases List.mem_cons.mp h with rfl | h
  · exact ⟨C, h1, h2, h3⟩
  · exact t c' h
theorem ix0 (h : Blt7 fun t => PySem.W.kitAny K (.type t) us = some false) : IxTab K us [] := ⟨fun c b h => (by cases h), h.all⟩
theorem ixC {tab : List (Str × Bool)} (h1 : ClsAt K c C) (h2 : ExnC K C) (h3 : PySem.W.kitAny K (.ref C) us = some b) (t : IxTab K us tab) : IxTab K us ((c, b) :: tab) := ⟨fun c' b' l => by
  rcases look_cons l with ⟨rfl, rfl⟩ | l
  · exact ⟨C, h1, h2, h3⟩
  · exact t.own _ _ l, t.blt⟩
theorem kaT {t u : Value} {us : List Value} (h : PySem.W.kitOne K t u = some true) : PySem.W.kitAny K t (u :: us) = some true := by
  unfold PySem.W.kitAny; rw [h]
theorem kaF {t u : Value} {us : List Value} (h : PySem.W.kitOne K t u = some false) (h2 : PySem.W.kitAny K t us = some b) : PySem.W.kitAny K t (u :: us) = some b := by
  unfold PySem.W.kitAny; rw [h]; exact h2
theorem ka0 {t : Value} : PySem.W.kitAny K t [] = some false := rfl
theorem clsOf (h : PySem.W.hasDictIn K C = true) : (PySem.W.clsIn K C).isSome = true := by
  obtain ⟨cd, hc, _⟩ := PySem.W.any_some h
  rw [hc]; rfl
theorem ea0 {t : Value} : PySem.W.exmAny K t [] = some false := rfl
theorem eaC {t u : Value} {us : List Value} {b1 b2 : Bool} (h : PySem.W.exmOne K t u = some b1) (h2 : PySem.W.exmAny K t us = some b2) : PySem.W.exmAny K t (u :: us) = some (b1 || b2) := by
  unfold PySem.W.exmAny; rw [h, h2] <;> rfl
theorem kp0 {mt : Value → Option Bool} : KpTab K mt [] := fun c b h => by cases h
theorem kpC {mt : Value → Option Bool} {tab : List (Str × Bool)} (h1 : ClsAt K c C) (h2 : mt (.ref C) = some b) (t : KpTab K mt tab) : KpTab K mt ((c, b) :: tab) := fun c' b' l => by
  rcases look_cons l with ⟨rfl, rfl⟩ | l
  · exact ⟨C, h1, h2⟩
  · exact t _ _ l
end
/-! ### isinstance(e, (A, B)) -/
def tCs : List V → TA
  | [] => tNil
  | v :: vs => tCons (tC v) (tCs vs)
theorem tCs_ok {σ : L2.St} {H : Hp} (vs : List V) : ∀ {Q : List V → Hp → Prop}, Q vs H → tCs vs σ H Q := by
  induction vs with
  | nil => exact fun h => h
  | cons v vs ih => exact fun {Q} h => ih (Q := fun us H' => Q (v :: us) H') h
section
variable {Y : WX} {K : PySem.W.Frag} {σ : L2.St} {H : Hp} {Q : VK} {ca : M PV}
theorem den_ixT {cvs : List V} {us : List Value} {tab : List (Str × Bool)} (hz : cvs.length ≤ sizeLine) (hu : Paired ClsV cvs us) (T : IxTab K us tab) (h : den K Y (bnd ca (ixM tab)) σ H Q) : tCB (rIsiTV K) (tCons (den K Y ca) (tCons (tTup (tCs cvs)) tNil)) σ H Q := by
  obtain ⟨C, W, s, at', p⟩ := h
  refine ⟨C, W, s, at', (Pst.bnd p).imp fun d s1 W1 H1 l1 at1 p1 v rv => ?_⟩
  refine tCs_ok _ ⟨hz, fun q hq => ?_⟩
  obtain ⟨l2, at2⟩ := at1.lay hq (.tup cvs)
  obtain ⟨t, b, ty, k, q'⟩ := ix_of T at2 (rv.mono l2) (p1.up l2)
  exact ⟨v, q, cvs, t, us, b, rfl, upd_same, hu, ty, k, q' _ (.bl b)⟩
end
section
variable {Y : WX} {X : Cx} {ca : M PV} {pos p px : Pos}
theorem nmB {x : Str} {nm : String} (hx : X.mg x = none) (hv : bootBuiltins x = some (.type nm)) (hn : x ≠ "__name__" := by decide) (hd : (x == ("__debug__" : Str)) = false := by decide) (hgx : Gl X x := by rfl) : PE X (.Name x p) (tC (.ty nm)) := pe_bltn hgx hx hv (show RelV (.ty nm) (.type nm) from rfl) hn hd
theorem nmC {x : Str} {D : Addr} (hx : X.mg x = some (.ref D)) (hd : (x == ("__debug__" : Str)) = false := by decide) (hgx : Gl X x := by rfl) : PE X (.Name x p) (tC (.ref D)) := pe_glob hgx hx (show RelV (.ref D) (.ref D) from rfl) hd
theorem nms0 : PA X [] (tCs []) := pa_nil
theorem nmsC {e : Expr} {es : List Expr} {v : V} {vs : List V} (h : PE X e (tC v)) (hs : PA X es (tCs vs)) (h1 : starEach (e :: es) X.env = (false, eval e X.env) :: starEach es X.env := by rfl) : PA X (e :: es) (tCs (v :: vs)) := pa_cons h hs h1
theorem xixT {a : Expr} {es : List Expr} {kk : Nat} {cvs : List V} {us : List Value} {tab : List (Str × Bool)} (T : IxTab X.K us tab) (hu : Paired ClsV cvs us) (hm : X.mg "isinstance" = none) (ha : PE X a (den X.K Y ca)) (he : PA X es (tCs cvs)) (hz : cvs.length ≤ sizeLine := by decide) (hg : Gl X "isinstance" := by rfl)
    (h1 : starEach [a, .Tuple es kk p] X.env = (false, eval a X.env) :: starEach [.Tuple es kk p] X.env := by rfl) (h2 : starEach [.Tuple es kk p] X.env = (false, eval (.Tuple es kk p) X.env) :: starEach [] X.env := by rfl) (hpl : (backTo pos (starEach [.Tuple es kk p] X.env)).any (·.1) = false := by rfl) :
    PE X (.Call (.Name "isinstance" px) [a, .Tuple es kk p] [] pos) (den X.K Y (bnd ca (ixM tab))) := pe_imp (pe_callB call_isiTV hg hm PyProof.Rows.Boot.«isinstance» (pa_cons ha (pa_cons (pe_tup he) pa_nil h2) h1) (by decide) (by decide) h1 hpl) fun _ _ _ => den_ixT hz hu T
end
end Dn
/-! St1: defs with a star parameter, classes made with one. -/
namespace Dn
open PySem L2 ClX StX PySem.Spec PyProof.Rows
/-- the promise of def f(a, .., *v), called by place: np values ahead of the star -/
structure FnGS (P : Program) (w : World) (K : PySem.W.Frag) (mg : Str → Option Value) (base : Heap) (CX : CXT) (k : Nat) (f : Addr) (np : Nat) (sp : Sp) : Prop where
  run : ∀ (A : Around) (outer : List PySem.Env) (s : Shared) (H : Hp) (us : List Value) (ws rest : List V) (Q : VK) (E : XK), A.guards = some [] → Room k A → Env0 P w K mg base A outer s H → Vals (ws ++ rest) us → ws.length = np → rest.length ≤ sizeLine →
    (∀ p, H p = none → sp (ws ++ [V.ref p]) (upd H p (.tup rest)) Q E) → codeAny (model P w) A (.call (.ref f) ⟨us, []⟩) (CR CX outer P w H s Q E) s
theorem FnGS.sp {P : Program} {w : World} {K : PySem.W.Frag} {mg : Str → Option Value} {base : Heap} {CX : CXT} {k : Nat} {f : Addr} {np : Nat} {sp sp' : Sp} (F : FnGS P w K mg base CX k f np sp) (h : ∀ vs H Q E, sp' vs H Q E → sp vs H Q E) : FnGS P w K mg base CX k f np sp' :=
  ⟨fun A outer s H us ws rest Q E hgd hr e0 hv hl hz q => F.run A outer s H us ws rest Q E hgd hr e0 hv hl hz fun p hp => h _ _ _ _ (q p hp)⟩
theorem FnGS.lck {P : Program} {w : World} {K : PySem.W.Frag} {mg : Str → Option Value} {base : Heap} {CX : CXT} {k : Nat} {f : Addr} {np : Nat} {sp : Sp} (F : FnGS P w K mg base CX k f np sp) : FnGS P w K mg base CX k f np (fun vs H Q E => sp vs H (lckQ Q) E) := by
  refine ⟨fun A outer s H us ws rest Q E hgd hr e0 hv hl hz q => codeAny_mono (F.run A outer s H us ws rest _ E hgd hr e0 hv hl hz q) fun res s' hq => ?_⟩
  cases res with
  | error e => exact hq
  | ok fl =>
    cases fl with
    | next => exact hq
    | brk => exact hq
    | cont => exact hq
    | ret u =>
      obtain ⟨v, H', os, b, un, ok, rv, S, q⟩ := hq
      exact ce_lock os b un ok rv q
theorem FnGS.mono {P : Program} {w : World} {K : PySem.W.Frag} {mg : Str → Option Value} {base : Heap} {CX : CXT} {j k : Nat} {f : Addr} {np : Nat} {sp : Sp} (F : FnGS P w K mg base CX j f np sp) (h : j ≤ k) : FnGS P w K mg base CX k f np sp :=
  ⟨fun A outer s H us ws rest Q E hg hr => F.run A outer s H us ws rest Q E hg (hr.mono h)⟩
end Dn
/-! St2: a class made where __init__ has a star parameter. -/
namespace Dn
open PySem L2 ClX StX PySem.Spec PyProof.Rows
end Dn
/-! St3: for a, b in .., enumerate over tuples and lists. -/
namespace PySem
open Sem (wp)
end PySem
namespace Dn
open PySem L2 ClX StX PySem.Spec PyProof.Rows
/-! ### enumerate as a source -/
end Dn
/-! St4: own + and * (instances to the left). -/
namespace Dn
open PySem L2 ClX StX PySem.Spec PyProof.Rows
/-! ### operators that may raise -/
end Dn
/-! St5: defs and classes with a star parameter, in rows; own operators in rows. -/
namespace Dn
open PySem L2 ClX StX NdefX PySem.Spec PyProof.Rows
end Dn
namespace Dn
open PySem L2 ClX StX NdefX PySem.Spec PyProof.Rows
end Dn
/-! St6: a list of anything compared with []. -/
namespace Dn
open PySem L2 ClX StX NdefX PySem.Spec PyProof.Rows
end Dn
/-! St7: tuples turned round, range of two, x += e, min and max of a list. -/
namespace Dn
open PySem L2 ClX StX NdefX PySem.Spec PyProof.Rows
end Dn
/-! St8: x += e, x *= e of ints; min, max of a list of ints. -/
namespace Dn
open PySem L2 ClX StX NdefX PySem.Spec PyProof.Rows
end Dn
/-! St9: a, b = a list. -/
namespace Dn
open PySem L2 ClX StX NdefX PySem.Spec PyProof.Rows
end Dn
/-! St10: * of cells of any size; the law's end with the script's bits. -/
namespace Dn
open PySem L2 ClX StX NdefX PySem.Spec PyProof.Rows
theorem log_of_bits {z : Int} (h : Builtin.Int.intBits z ≤ 1048576) : z.natAbs.log2 ≤ 1048576 := by
  unfold Builtin.Int.intBits at h
  split at h
  · rename_i hz
    have : z = 0 := by simpa using hz
    subst this
    decide
  · omega
/-- * of factors of together less than a hundred million bits -/
def CMulV (i j : Int) : Prop := i.natAbs.log2 + j.natAbs.log2 < 100000000
instance (i j : Int) : Decidable (CMulV i j) := inferInstanceAs (Decidable (_ < _))
theorem CMulV.ok {i j : Int} (h : CMulV i j) : IntMulOk i j := by
  have b : ∀ x : Int, Builtin.Int.intBits x ≤ x.natAbs.log2 + 1 := fun x => by
    unfold Builtin.Int.intBits
    split <;> omega
  have h1 := b i
  have h2 := b j
  have h3 : i.natAbs.log2 + j.natAbs.log2 < 100000000 := h
  have e : bitsLine = 134217728 := by decide
  unfold IntMulOk
  intro z
  rw [Bool.and_eq_true] at z
  have z2 := z.2
  unfold Builtin.Int.intTooBig at z2
  have z3 := of_decide_eq_true z2
  rw [e] at z3
  omega
end Dn
/-! St11: len() of own instances with an own `__len__`. -/
namespace Dn
open PySem L2 ClX StX PySem.Spec PyProof.Rows
/-! ### calls of built-ins that may raise -/
structure LenC (K : PySem.W.Frag) (C g : Addr) : Prop where
  he : PySem.W.findIn K (.ref C) "__len__" = some (some (.ref g))
  fn : PySem.W.isFn K (.ref g) = true
structure LenTab (P : Program) (w : World) (K : PySem.W.Frag) (mg : Str → Option Value) (base : Heap) (k : Nat) (tab : List (Str × Fn)) : Prop where
  ok : ∀ c mf, tab.lookup c = some mf → ∃ C g, ClsAt K c C ∧ LenC K C g ∧ Ent P w K mg base k g 1 1 [] mf
/-! ### in rows -/
section
variable {P : Program} {w : World} {K : PySem.W.Frag} {mg : Str → Option Value} {base : Heap} {k j nn : Nat} {c x qual : Str} {st : Stmt} {ps : List Str} {body : Nat → M Fl} {np : Nat} {tab : List (Str × Fn)} {bq : Bool}
theorem len0 : LenTab P w K mg base k [] := ⟨fun c mf h => nomatch h⟩
end
end Dn
/-! Hs1: the end of a law over the small head. -/
namespace Dn
open PySem L2 ClX StX NdefX PySem.Spec PyProof.Rows
end Dn
/-! Hs2: the end of a law whose defs make lambdas. -/
namespace Hs
open PySem L2 PySem.Spec PyProof.Rows He Dn
/-- what the fragment says of tables that grow -/
structure TabKs (K : Frag) (T : List (Addr × Addr × Str)) (h : Heap) : Prop where
  kin : K.In h
  marks : ∀ P q, MarkK K P q → (∃ c, (c, P, q) ∈ T) ∨ h.get? mainGlobals = some (markO P q)
  tabs : ∀ t ∈ T, h.get? t.2.1 = some (PySem.W.tabObj #[]) ∧ PySem.W.CodeHd h t.1 t.2.1 ∧ K.lookup t.2.1 = none
theorem TabKs.keeps {K : Frag} {T : List (Addr × Addr × Str)} {h h' : Heap} (x : TabKs K T h) (g : ∃ o, h.get? mainGlobals = some o) (k : ∀ b o, h.get? b = some o → h'.get? b = some o) : TabKs K T h' :=
  ⟨fun b o e => k _ _ (x.kin b o e), fun P q m => (x.marks P q m).imp id fun e => k _ _ e, fun t ht => let ⟨a, b, c⟩ := x.tabs t ht; ⟨k _ _ a, b.keeps k, c⟩⟩
theorem look_app {α : Type} {a : Addr} {o : α} : ∀ {l r : List (Addr × α)}, l.lookup a = some o → (l ++ r).lookup a = some o
  | [], _, h => by cases h
  | (b, x) :: l, r, h => by
    rw [List.cons_append, List.lookup_cons] at *
    split at h
    · exact h
    · exact look_app h
theorem look_mem {α : Type} {a : Addr} {o : α} : ∀ {l : List (Addr × α)}, (a, o) ∈ l → l.lookup a ≠ none
  | (b, x) :: l, h => by
    rw [List.lookup_cons]
    split
    · exact fun z => nomatch z
    · rename_i hb
      rcases List.mem_cons.mp h with e | h
      · cases e
        simp at hb
      · exact look_mem h
def tabsOf (K : Frag) (ls : List (Frag → Addr × Str)) : List (Addr × Addr × Str) := ls.filterMap fun l => match codeOfF K (l K).1 with
  | some c => (match tabOfC K c with
    | some P => some (c, P, (l K).2)
    | none => none)
  | none => none
def cutF (K : Frag) (T : List (Addr × Addr × Str)) : Frag := K.filter fun p => !(T.any fun t => decide (t.2.1 = p.1))
def cutK (K : Frag) (T : List (Addr × Addr × Str)) : Frag := cutF K T ++ T.map fun t => (mainGlobals, markO t.2.1 t.2.2)
def emptyT : Option Obj → Bool
  | some ⟨.none, none, .fields ⟨[]⟩, ⟨[]⟩⟩ => true
  | _ => false
theorem emptyT_ok {o : Option Obj} (h : emptyT o = true) : o = some (PySem.W.tabObj #[]) := by
  unfold emptyT at h
  split at h
  · rfl
  · cases h
def tabG (K : Frag) (T : List (Addr × Addr × Str)) (g : Addr → Option Obj) : Bool := ((cutF K T).lookup mainGlobals).isSome && (T.all fun t => emptyT (g t.2.1) && codeFB t.1 t.2.1 (g t.1) && decide (t.2.1 ≠ mainGlobals))
theorem cut_in {g : Addr → Option Obj} {h : Heap} {K : Frag} {T : List (Addr × Addr × Str)} (hg : g = h.get?) (hK : AllK K h) (c : tabG K T g = true) : TabKs (cutK K T) T h := by
  subst hg
  unfold tabG at c
  rw [Bool.and_eq_true, List.all_eq_true] at c
  obtain ⟨c1, c2⟩ := c
  obtain ⟨om, e0⟩ := Option.isSome_iff_exists.mp c1
  have lk : ∀ b o, (cutK K T).lookup b = some o → (cutF K T).lookup b = some o := fun b o e => by
    unfold cutK at e
    cases z : (cutF K T).lookup b with
    | some o' =>
      rw [look_app z] at e
      exact e
    | none =>
      have hm : (b, o) ∈ T.map fun t => (mainGlobals, markO t.2.1 t.2.2) := by
        rcases List.mem_append.mp (PySem.W.mem_of_lookupK e) with hm | hm
        · exact absurd z (look_mem hm)
        · exact hm
      obtain ⟨t, _, e2⟩ := List.mem_map.mp hm
      cases e2
      rw [e0] at z
      cases z
  refine ⟨fun b o e => ?_, fun P q m => ?_, fun t ht => ?_⟩
  · exact hK (b, o) (List.mem_filter.mp (PySem.W.mem_of_lookupK (lk b o e))).1
  · rcases List.mem_append.mp (show (mainGlobals, markO P q) ∈ cutF K T ++ _ from m) with hm | hm
    · exact .inr (hK _ (List.mem_filter.mp hm).1)
    · obtain ⟨t, ht, e⟩ := List.mem_map.mp hm
      have e := congrArg (fun p : Addr × Obj => markOf p.2) e
      dsimp only at e
      rw [markOf_mark, markOf_mark] at e
      have e := Option.some.inj e
      rw [Prod.mk.injEq] at e
      obtain ⟨e1, e2⟩ := e
      subst e1 e2
      exact .inl ⟨t.1, ht⟩
  · have k := c2 t ht
    simp only [Bool.and_eq_true, decide_eq_true_eq] at k
    obtain ⟨⟨k1, k2⟩, k3⟩ := k
    refine ⟨emptyT_ok k1, codeFB_ok (g := h.get?) k2 (fun _ e => e), ?_⟩
    cases z : (cutK K T).lookup t.2.1 with
    | none => rfl
    | some o =>
      have hm := PySem.W.mem_of_lookupK (lk _ o z)
      have := (List.mem_filter.mp hm).2
      rw [Bool.not_eq_true', List.any_eq_false] at this
      exact absurd (decide_eq_true rfl) (this t ht)
def obsL (n : Nat) (ls : List (Frag → Addr × Str)) (ex : List (Frag → Bool)) (fn : List Df) (g : Addr → Option Obj) : Al :=
  let K := frG g (reach g n)
  let T := tabsOf K ls
  ((obsK ex fn (cutK K T)).1 && tabG K T g, (obsK ex fn (cutK K T)).2)
def hookL (n : Nat) (ls : List (Frag → Addr × Str)) (ex : List (Frag → Bool)) (fn : List Df) : PySem.W.Hook where
  α := Al
  obs := fun s => obsL n ls ex fn s.heap.get?
  val := fun _ => valK fn
  says := fun _ h => ∃ (K : Frag) (T : List (Addr × Addr × Str)), TabKs K T h ∧ (∃ o, h.get? mainGlobals = some o) ∧ Says ex fn K
  of := fun w s e => by
    have e : ((obsK ex fn (cutK (frG s.heap.get? (reach s.heap.get? n)) (tabsOf (frG s.heap.get? (reach s.heap.get? n)) ls))).1 && tabG (frG s.heap.get? (reach s.heap.get? n)) (tabsOf (frG s.heap.get? (reach s.heap.get? n)) ls) s.heap.get?, (obsK ex fn (cutK (frG s.heap.get? (reach s.heap.get? n)) (tabsOf (frG s.heap.get? (reach s.heap.get? n)) ls))).2) = valK fn := e
    unfold valK at e
    rw [Prod.mk.injEq, Bool.and_eq_true] at e
    obtain ⟨⟨e1, e2⟩, e3⟩ := e
    have T := cut_in rfl frG_all e2
    refine ⟨_, _, T, ?_, ?_⟩
    · unfold tabG at e2
      rw [Bool.and_eq_true] at e2
      obtain ⟨o, ho⟩ := Option.isSome_iff_exists.mp e2.1
      exact ⟨o, frG_all (mainGlobals, o) (List.mem_filter.mp (PySem.W.mem_of_lookupK ho)).1⟩
    · show obsK ex fn _ = valK fn
      unfold valK
      rw [← e1, ← e3]
  keeps := fun _ _ _ ⟨K, T, hK, g, c⟩ k => ⟨K, T, hK.keeps g k, let ⟨o, e⟩ := g; ⟨o, k _ _ e⟩, c⟩
theorem obsL_eq {n : Nat} {ls : List (Frag → Addr × Str)} {ex : List (Frag → Bool)} {fn : List Df} {s : PySem.W.SharedT} : obsL n ls ex fn (HandSHeadRun.getT s) = (hookL n ls ex fn).obs s.abs := by
  have e : HandSHeadRun.getT s = s.abs.heap.get? := funext (HandSHeadRun.getT_eq s)
  rw [e] <;> rfl
end Hs
namespace Dn
open PySem L2 ClX StX NdefX PySem.Spec PyProof.Rows
theorem law_denT {l : PySem.W.OpenLaw} {k : Nat} {q : Program} {loose : List Str} {XP : (Str → Option Value) → Heap → Prop} {YP : World → Heap → Prop} {d : DefRec} {x : Str} {m : Fn}
    (hn : l.most = some 63) (hdf : d.params.defaults = []) (hr : Room k callerA)
    (F : ∀ (w : World) (mg : Str → Option Value) (fa : Addr) (h : Heap), YP w h → h.Ns mainGlobals mg → mg d.name = some (.ref fa) →
      ∃ (K : PySem.W.Frag) (T : List (Addr × Addr × Str)), Hs.TabKs K T h ∧ ∃ fd : FuncData, (∀ (s : Shared) (u : Value), BindsTo s fd ⟨[u], []⟩ [(x, u)]) ∧
        ∀ base : Heap, K.In base → base.Ns mainGlobals mg → FnG l.prog w K mg base (L2.CX l.prog w) k fa fd [x] (spM K 1 m))
    (hm : ∀ ns : List Int, ns.length ≤ 63 → (∀ z ∈ ns, z.natAbs.log2 ≤ 1048576) → ∃ n st, m n [.scr ns] [] = .ok (.bl true) st) :
    PySem.W.WalkO q loose XP YP l.row.toRowW d [] (fun f vs => PySem.call f vs) := by
  refine Att.attach_callB hn hdf fun w s₀ s₁ mg mb fa o pm cd doc a vs ns G Y ho hd hcd hmg hobj hints hlen hbits hg => ?_
  obtain ⟨K, T, KT, fd, hbind, hF⟩ := F w mg fa _ Y G.T.g hmg
  have KX := KT.kin
  have hMk : ∀ P q, MarkK K P q → ∃ c, (c, P, q) ∈ T := fun P q m => by
    rcases KT.marks P q m with h | h
    · exact h
    · obtain ⟨o, es, ep, e, ed, _⟩ := G.T.g
      rw [e] at h
      cases h
      cases ed
  have isT : ∀ b : Addr, b ∈ T.map (·.2.1) → s₁.heap.get? b = some (PySem.W.tabObj #[]) ∧ K.lookup b = none ∧ ∃ c, PySem.W.CodeHd s₁.heap c b := fun b hb => by
    obtain ⟨t, ht, e⟩ := List.mem_map.mp hb
    subst e
    obtain ⟨h1, h2, h3⟩ := KT.tabs t ht
    exact ⟨h1, h3, t.1, h2⟩
  have aT : a ∉ T.map (·.2.1) := fun z => by
    have q := (isT a z).1
    rw [hobj] at q
    cases q
  have rv : Vals (ns.map V.int) vs := vals_ints hints
  have hsz : vs.length = ns.length := hints.length
  have hline : ns.length ≤ sizeLine := Nat.le_trans hlen (by decide)
  -- the abstract heap: the script and the tables
  obtain ⟨F0, hF0⟩ : ∃ F0, F0 = scrH K a { cls := .type "list", data := .seq vs.toArray } ns := ⟨_, rfl⟩
  obtain ⟨H, hH⟩ : ∃ H : Hp, H = fun b => if b ∈ T.map (·.2.1) then some (.tbl #[]) else F0 b := ⟨_, rfl⟩
  have onlyF : ∀ {b u}, F0 b = some u → b = a ∧ K.lookup a = none ∧ u = .frz { cls := .type "list", data := .seq vs.toArray } (.lst (ns.map V.int)) := fun {b u} e => by
    rw [hF0] at e
    unfold scrH at e
    split at e
    · rename_i hc
      cases e
      exact ⟨hc.1, hc.2, rfl⟩
    · cases e
  have HT : ∀ {b : Addr}, b ∈ T.map (·.2.1) → H b = some (.tbl #[]) := fun {b} hb => by rw [hH]; exact if_pos hb
  have HN : ∀ {b : Addr}, b ∉ T.map (·.2.1) → H b = F0 b := fun {b} hb => by rw [hH]; exact if_neg hb
  have FT : ∀ {b : Addr}, b ∈ T.map (·.2.1) → F0 b = none := fun {b} hb => by
    cases z : F0 b with
    | none => rfl
    | some u =>
      obtain ⟨rfl, _, _⟩ := onlyF z
      exact absurd hb aT
  have only : ∀ {b u}, H b = some u → (b ∈ T.map (·.2.1) ∧ u = .tbl #[]) ∨ (b ∉ T.map (·.2.1) ∧ b = a ∧ K.lookup a = none ∧ u = .frz { cls := .type "list", data := .seq vs.toArray } (.lst (ns.map V.int))) := fun {b u} e => by
    by_cases hb : b ∈ T.map (·.2.1)
    · rw [HT hb] at e
      cases e
      exact .inl ⟨hb, rfl⟩
    · rw [HN hb] at e
      exact .inr ⟨hb, onlyF e⟩
  have look : ∀ {b o es ep}, s₁.heap.get? b = some o → o.data = .dict es ep → H b = none := fun {b o es ep} e ed => by
    cases z : H b with
    | none => rfl
    | some u =>
      rcases only z with ⟨hb, _⟩ | ⟨_, rfl, _, _⟩
      · rw [(isT b hb).1] at e
        cases e
        cases ed
      · rw [hobj] at e
        cases e
        cases ed
  have hok : HOk l.prog w H s₁.heap := fun b u e => by
    rcases only e with ⟨hb, rfl⟩ | ⟨_, rfl, _, rfl⟩
    · exact (isT b hb).1
    · exact ⟨hobj, by rw [List.length_map]; exact hline, vs, _, rv, hobj⟩
  have hS : SqL K H a (ns.map V.int) := by
    cases hk : K.lookup a with
    | none =>
      refine .inl (.inr ⟨{ cls := .type "list", data := .seq vs.toArray }, ?_⟩)
      rw [HN aT, hF0]
      exact if_pos ⟨rfl, hk⟩
    | some ob =>
      have e := KX a ob hk
      rw [hobj] at e
      cases e
      exact .inr ⟨_, vs.toArray, _, hk, rfl, rfl, rfl, by rw [List.size_toArray, hsz]; exact hline, rv⟩
  have ns_in : ∀ {b m}, s₁.heap.Ns b m → (hidT s₁.heap H).Ns b m := fun {b m} ⟨o, es, ep, e, ed, r⟩ => ⟨o, es, ep, hidT_get e (look e ed), ed, r⟩
  have kin : K.In (hidT s₁.heap H) := fun b ob e => hidT_get (KX b ob e) (by
    cases z : H b with
    | none => rfl
    | some u =>
      rcases only z with ⟨hb, _⟩ | ⟨_, rfl, hz, _⟩
      · rw [(isT b hb).2.1] at e
        cases e
      · rw [hz] at e
        cases e)
  obtain ⟨mc, n1, n2⟩ := G.T.nolimit
  have e0 : Env0 l.prog w K mg (hidT s₁.heap H) callerA [] s₁ H :=
    ⟨rfl, ⟨kin, ns_in G.T.g, ⟨mb, ns_in G.T.b, G.T.builtins⟩, ⟨mc, ns_in n1, n2⟩⟩, fun b ob e => of_hidT e, Nat.le_of_eq (hidT_size _ _), trivial, fun b hb => (nomatch hb), hok, .of_eq hg⟩
  obtain ⟨n, st, run⟩ := hm ns hlen fun z hz => log_of_bits (hbits z hz)
  have sp : spM K 1 m [.ref a] H (fun v _ => v = .bl true) (fun _ _ _ => False) := by
    have hSF : SqL K F0 a (ns.map V.int) := by
      rcases hS with (h | ⟨o, h⟩) | h
      · rw [HN aT] at h
        exact .inl (.inl h)
      · rw [HN aT] at h
        exact .inl (.inr ⟨o, h⟩)
      · exact .inr h
    refine ⟨rfl, n, ⟨F0, []⟩, [], [.scr ns], ⟨fun b u e => ?_, fun i b e => ?_, List.nodup_nil, rfl, fun P q m => ?_⟩, .cons (.scr hSF) .nil, ?_⟩
    · have e : F0 b = some u := e
      rw [HN fun hb => by rw [FT hb] at e; cases e]
      exact e
    · exact absurd e (by simp)
    · obtain ⟨c, hc⟩ := hMk P q m
      have hb : P ∈ T.map (·.2.1) := List.mem_map.mpr ⟨_, hc, rfl⟩
      exact ⟨FT hb, #[], HT hb, True.intro, fun pos cv z => by
        have z : codeAmong pos [] = some cv := z
        simp [codeAmong] at z⟩
    · rw [run]
      intro v W' H' _ _ _ r
      cases r
      rfl
  refine codeAny_mono ((hF _ kin (ns_in G.T.g)).run callerA [] s₁ H ⟨[.ref a], []⟩ [.ref a] [.ref a] _ _ rfl hr e0 (hbind s₁ (.ref a)) (.cons rfl .nil) sp) fun r s' hq => ?_
  cases r with
  | error e =>
    obtain ⟨_, _, _, _, _, _, _, _, _, _, _, _, w⟩ := hq
    exact w.elim
  | ok fl =>
    cases fl with
    | next => exact False.elim hq
    | brk => exact False.elim hq
    | cont => exact False.elim hq
    | ret u =>
      obtain ⟨v, H', os, bare, un, hok', ru, hv⟩ := hq
      subst hv
      obtain rfl : u = Value.bool true := ru
      have key : ∀ b ob, b ∉ T.map (·.2.1) → s₁.heap.get? b = some ob → s'.heap.get? b = some ob := fun b ob nb e => by
        cases z : H b with
        | none => exact un.keep b ob e z (fun q => nomatch q) (fun q => nomatch q)
        | some t =>
          rcases only z with ⟨hb, _⟩ | ⟨_, rfl, _, rfl⟩
          · exact absurd hb nb
          · obtain ⟨k1, _⟩ := hok' b _ (un.frzs b _ _ z)
            rw [hobj] at e
            cases e
            exact k1
      have grown : ∀ b, b ∈ T.map (·.2.1) → ∃ more : Array Value, s'.heap.get? b = some { cls := .none, data := .fields more } := fun b hb => by
        obtain ⟨more, z⟩ := un.tbls b #[] (HT hb)
        exact ⟨_, hok' b _ z⟩
      refine ⟨rfl, ⟨fun b ob e => ?_, fun b ob e => ?_⟩, os, bare⟩
      · by_cases hb : b ∈ T.map (·.2.1)
        · obtain ⟨more, hm⟩ := grown b hb
          obtain ⟨t1, _, c, t3⟩ := isT b hb
          rw [t1] at e
          cases e
          exact .inr (.inl ⟨(t3.tab t1).isCodeTable, rfl, #[], more, rfl, by rw [Array.empty_append]; exact hm⟩)
        · exact .inl (key b ob hb e)
      · by_cases hb : b ∈ T.map (·.2.1)
        · obtain ⟨more, hm⟩ := grown b hb
          exact ⟨_, hm⟩
        · exact ⟨ob, key b ob hb e⟩
end Dn
namespace Lw
open PySem Dn PySem.Spec PyProof.Rows
open L2 hiding bin
def top (i : Nat) : Stmt := PySem.Challenge.pw_rounddown_k02_results_of_offices.main.body.getD i (.Pass ⟨0, 0, 0, 0⟩)
abbrev s_law_pen : Stmt := top 25
abbrev s_law_draw : Stmt := top 26
abbrev s_law_pick : Stmt := top 27
abbrev s_law_names : Stmt := top 29
abbrev s_law_digits : Stmt := top 28
abbrev s_law_row : Stmt := top 30
abbrev s_is_name : Stmt := top 12
abbrev s_need_name : Stmt := top 13
abbrev s_is_integer : Stmt := top 11
abbrev s_is_rate : Stmt := top 18
abbrev s_need_integer : Stmt := top 14
abbrev s_Office_init : Stmt := clsDef (top 19) 4
abbrev s_CappedOffice_init : Stmt := clsDef (top 20) 1
abbrev s_law_made : Stmt := top 31
abbrev s_law_any : Stmt := top 34
abbrev s_law_amount : Stmt := top 33
abbrev s_law_is_integer : Stmt := top 35
abbrev s_law_result : Stmt := top 32
abbrev s_law_due : Stmt := top 38
abbrev s_law_told : Stmt := top 37
abbrev s_need_amount : Stmt := top 15
abbrev s_Office_result : Stmt := clsDef (top 19) 17
abbrev s_CappedOffice_result : Stmt := clsDef (top 20) 4
abbrev s_Office_call : Stmt := clsDef (top 19) 6
abbrev s_Office_is_open : Stmt := clsDef (top 19) 16
abbrev s_Office_most : Stmt := clsDef (top 19) 13
abbrev s_CappedOffice_most : Stmt := clsDef (top 20) 2
abbrev s_Office_least : Stmt := clsDef (top 19) 12
abbrev s_Office_fee : Stmt := clsDef (top 19) 11
abbrev s_Office_rate : Stmt := clsDef (top 19) 10
abbrev s_Office_goal : Stmt := clsDef (top 19) 9
abbrev s_Office_source : Stmt := clsDef (top 19) 8
abbrev s_law_values : Stmt := top 36
abbrev s_law : Stmt := top 39
abbrev s_InvalidNumber_init : Stmt := clsDef (top 4) 0
abbrev s_Closed_init : Stmt := clsDef (top 6) 0
abbrev R : PySem.W.OpenRow := PySem.W.OpenLaw.row PySem.Challenge.rw_rounddown_k02_results_of_offices
def nm0 : List Str := ["_wall", "InvalidName", "InvalidRate", "InvalidNumber", "InvalidText", "Closed", "COINS", "LETTERS", "ALPHABET", "is_integer", "is_name", "need_name", "need_integer", "need_amount", "DIGITS", "is_rate", "Office", "CappedOffice", "number_in", "rate_in"]
def nm1 : List Str := ["office_in", "_law_pen", "_law_draw", "_law_pick", "_law_digits", "_law_names", "_law_row", "_law_made", "_law_result", "_law_amount", "_law_any", "_law_is_integer", "_law_values", "_law_told", "_law_due"]
def nms : List Str := nm0 ++ nm1
def ex : List (Hs.Frag → Bool) := [
  fun K => Hs.cellB K (Hs.ccOf K (He.ma K (He.ga K "CappedOffice") "__init__")) (He.ga K "CappedOffice"),
  fun K => Hs.fileB K (He.ma K (He.ga K "CappedOffice") "__init__") (PySem.Challenge.pw_rounddown_k02_results_of_offices.main.file : Str),
  fun K => Hs.cellB K (Hs.ccOf K (He.ma K (He.ga K "CappedOffice") "result")) (He.ga K "CappedOffice"),
  fun K => Hs.fileB K (He.ma K (He.ga K "CappedOffice") "result") (PySem.Challenge.pw_rounddown_k02_results_of_offices.main.file : Str),
  fun K => decide (PySem.W.nsIn K mainGlobals "_law_pen" = some (some (.ref (He.ga K "_law_pen")))),
  fun K => decide (PySem.W.nsIn K mainGlobals "_law_draw" = some (some (.ref (He.ga K "_law_draw")))),
  fun K => decide (PySem.W.nsIn K mainGlobals "_law_pick" = some (some (.ref (He.ga K "_law_pick")))),
  fun K => decide (PySem.W.nsIn K mainGlobals "_law_names" = some (some (.ref (He.ga K "_law_names")))),
  fun K => decide (PySem.W.nsIn K mainGlobals "_law_digits" = some (some (.ref (He.ga K "_law_digits")))),
  fun K => decide (PySem.W.nsIn K mainGlobals "_law_row" = some (some (.ref (He.ga K "_law_row")))),
  fun K => decide (PySem.W.nsIn K mainGlobals "is_name" = some (some (.ref (He.ga K "is_name")))),
  fun K => decide (PySem.W.nsIn K mainGlobals "need_name" = some (some (.ref (He.ga K "need_name")))),
  fun K => decide (PySem.W.nsIn K mainGlobals "is_integer" = some (some (.ref (He.ga K "is_integer")))),
  fun K => decide (PySem.W.nsIn K mainGlobals "Office" = some (some (.ref (He.ga K "Office")))),
  fun K => decide (PySem.W.nsIn K mainGlobals "is_rate" = some (some (.ref (He.ga K "is_rate")))),
  fun K => decide (PySem.W.nsIn K mainGlobals "InvalidNumber" = some (some (.ref (He.ga K "InvalidNumber")))),
  fun K => decide (PySem.W.nsIn K mainGlobals "need_integer" = some (some (.ref (He.ga K "need_integer")))),
  fun K => decide (PySem.W.nsIn K mainGlobals "CappedOffice" = some (some (.ref (He.ga K "CappedOffice")))),
  fun K => decide (PySem.W.nsIn K mainGlobals "_law_made" = some (some (.ref (He.ga K "_law_made")))),
  fun K => decide (PySem.W.nsIn K mainGlobals "_law_any" = some (some (.ref (He.ga K "_law_any")))),
  fun K => decide (PySem.W.nsIn K mainGlobals "_law_amount" = some (some (.ref (He.ga K "_law_amount")))),
  fun K => decide (PySem.W.nsIn K mainGlobals "_law_is_integer" = some (some (.ref (He.ga K "_law_is_integer")))),
  fun K => decide (PySem.W.nsIn K mainGlobals "_law_result" = some (some (.ref (He.ga K "_law_result")))),
  fun K => decide (PySem.W.nsIn K mainGlobals "_law_due" = some (some (.ref (He.ga K "_law_due")))),
  fun K => decide (PySem.W.nsIn K mainGlobals "Closed" = some (some (.ref (He.ga K "Closed")))),
  fun K => decide (PySem.W.nsIn K mainGlobals "need_amount" = some (some (.ref (He.ga K "need_amount")))),
  fun K => decide (PySem.W.nsIn K mainGlobals "_law_told" = some (some (.ref (He.ga K "_law_told")))),
  fun K => decide (PySem.W.nsIn K mainGlobals "_law_values" = some (some (.ref (He.ga K "_law_values")))),
  fun K => decide (PySem.W.nsIn K mainGlobals "__builtins__" = some (some (.ref (He.ga K "__builtins__")))),
  fun K => decide (PySem.W.nsIn K mainGlobals "law" = some (some (.ref (He.ga K "law")))),
  fun K => decide (PySem.W.findIn K (.ref (He.ga K "InvalidNumber")) "__init__" = some (some (.ref (He.ma K (He.ga K "InvalidNumber") "__init__")))),
  fun K => decide (PySem.W.findIn K (.ref (He.ga K "Office")) "__init__" = some (some (.ref (He.ma K (He.ga K "Office") "__init__")))),
  fun K => decide (PySem.W.findIn K (.ref (He.ga K "CappedOffice")) "__init__" = some (some (.ref (He.ma K (He.ga K "CappedOffice") "__init__")))),
  fun K => decide (PySem.W.findIn K (.ref (He.ga K "CappedOffice")) "result" = some (some (.ref (He.ma K (He.ga K "CappedOffice") "result")))),
  fun K => decide (PySem.W.findIn K (.ref (He.ga K "Office")) "result" = some (some (.ref (He.ma K (He.ga K "Office") "result")))),
  fun K => decide (PySem.W.findIn K (.ref (He.ga K "Closed")) "__init__" = some (some (.ref (He.ma K (He.ga K "Closed") "__init__")))),
  fun K => decide (PySem.W.findIn K (.ref (He.ga K "CappedOffice")) "__call__" = some (some (.ref (He.ma K (He.ga K "Office") "__call__")))),
  fun K => decide (PySem.W.findIn K (.ref (He.ga K "Office")) "__call__" = some (some (.ref (He.ma K (He.ga K "Office") "__call__")))),
  fun K => decide (PySem.W.findIn K (.ref (He.ga K "CappedOffice")) "is_open" = some (some (.ref (He.ma K (He.ga K "Office") "is_open")))),
  fun K => decide (PySem.W.findIn K (.ref (He.ga K "Office")) "is_open" = some (some (.ref (He.ma K (He.ga K "Office") "is_open")))),
  fun K => decide (PySem.W.findIn K (.ref (He.ga K "CappedOffice")) "most" = some (some (.ref (He.ma K (He.ga K "CappedOffice") "most")))),
  fun K => decide (PySem.W.findIn K (.ref (He.ga K "Office")) "most" = some (some (.ref (He.ma K (He.ga K "Office") "most")))),
  fun K => decide (PySem.W.findIn K (.ref (He.ga K "CappedOffice")) "least" = some (some (.ref (He.ma K (He.ga K "Office") "least")))),
  fun K => decide (PySem.W.findIn K (.ref (He.ga K "Office")) "least" = some (some (.ref (He.ma K (He.ga K "Office") "least")))),
  fun K => decide (PySem.W.findIn K (.ref (He.ga K "CappedOffice")) "fee" = some (some (.ref (He.ma K (He.ga K "Office") "fee")))),
  fun K => decide (PySem.W.findIn K (.ref (He.ga K "Office")) "fee" = some (some (.ref (He.ma K (He.ga K "Office") "fee")))),
  fun K => decide (PySem.W.findIn K (.ref (He.ga K "CappedOffice")) "rate" = some (some (.ref (He.ma K (He.ga K "Office") "rate")))),
  fun K => decide (PySem.W.findIn K (.ref (He.ga K "Office")) "rate" = some (some (.ref (He.ma K (He.ga K "Office") "rate")))),
  fun K => decide (PySem.W.findIn K (.ref (He.ga K "CappedOffice")) "goal" = some (some (.ref (He.ma K (He.ga K "Office") "goal")))),
  fun K => decide (PySem.W.findIn K (.ref (He.ga K "Office")) "goal" = some (some (.ref (He.ma K (He.ga K "Office") "goal")))),
  fun K => decide (PySem.W.findIn K (.ref (He.ga K "CappedOffice")) "source" = some (some (.ref (He.ma K (He.ga K "Office") "source")))),
  fun K => decide (PySem.W.findIn K (.ref (He.ga K "Office")) "source" = some (some (.ref (He.ma K (He.ga K "Office") "source")))),
  fun K => Hs.pfB K (He.ma K (He.ga K "CappedOffice") "most"),
  fun K => Hs.pfB K (He.ma K (He.ga K "Office") "most"),
  fun K => Hs.pfB K (He.ma K (He.ga K "Office") "least"),
  fun K => Hs.pfB K (He.ma K (He.ga K "Office") "fee"),
  fun K => Hs.pfB K (He.ma K (He.ga K "Office") "rate"),
  fun K => Hs.pfB K (He.ma K (He.ga K "Office") "goal"),
  fun K => Hs.pfB K (He.ma K (He.ga K "Office") "source"),
  fun K => Hs.excB K (He.ga K "InvalidNumber") [.type "ValueError", .type "Exception", .type "BaseException", .type "object"] "ValueError.__new__",
  fun K => Hs.excB K (He.ga K "Closed") [.type "RuntimeError", .type "Exception", .type "BaseException", .type "object"] "RuntimeError.__new__",
  fun K => decide (PySem.W.nsIn K mainGlobals "list" = some none),
  fun K => PySem.W.keepIn K (.ref (He.ga K "_law_pen")),
  fun K => decide (PySem.W.nsIn K mainGlobals "range" = some none),
  fun K => decide (PySem.W.nsIn K mainGlobals "int" = some none),
  fun K => decide (PySem.W.nsIn K mainGlobals "len" = some none),
  fun K => decide (PySem.W.nsIn K mainGlobals "abs" = some none),
  fun K => PySem.W.keepIn K (.ref (He.ga K "_law_draw")),
  fun K => PySem.W.keepIn K (.ref (He.ga K "_law_pick")),
  fun K => PySem.W.keepIn K (.ref (He.ga K "_law_names")),
  fun K => PySem.W.keepIn K (.ref (He.ga K "_law_digits")),
  fun K => decide (PySem.W.nsIn K mainGlobals "min" = some none),
  fun K => PySem.W.keepIn K (.ref (He.ga K "_law_row")),
  fun K => Hs.strO "abcdefghijklmnopqrstuvwxyz" (PySem.W.nsIn K mainGlobals "ALPHABET"),
  fun K => decide (PySem.W.nsIn K mainGlobals "all" = some none),
  fun K => Hs.intO (8) (PySem.W.nsIn K mainGlobals "LETTERS"),
  fun K => decide (PySem.W.nsIn K mainGlobals "isinstance" = some none),
  fun K => decide (PySem.W.nsIn K mainGlobals "str" = some none),
  fun K => PySem.W.keepIn K (.ref (He.ga K "is_name")),
  fun K => PySem.W.keepIn K (.ref (He.ga K "need_name")),
  fun K => decide (PySem.W.nsIn K mainGlobals "tuple" = some none),
  fun K => decide (PySem.W.nsIn K mainGlobals "bool" = some none),
  fun K => PySem.W.keepIn K (.ref (He.ga K "is_integer")),
  fun K => PySem.W.readsIn K (He.ga K "Office") (.type "type"),
  fun K => decide (PySem.W.specialIn K (.ref (He.ga K "Office")) "__getattribute__" = some (some (.builtin "type.__getattribute__"))),
  fun K => Hs.catO (9) (PySem.W.findCls K (.ref (He.ga K "Office")) (.type "type") "RATE"),
  fun K => PySem.W.keepIn K (.ref (He.ga K "is_rate")),
  fun K => PySem.W.keepIn K (.ref (He.ma K (He.ga K "InvalidNumber") "__init__")),
  fun K => decide (PySem.W.findIn K (.ref (He.ga K "InvalidNumber")) "__setattr__" = some (some (.builtin "object.__setattr__"))),
  fun K => decide (PySem.W.subIn K (.ref (He.ga K "InvalidNumber")) (.type "BaseException") = some true),
  fun K => decide (PySem.W.typeIn K (.ref (He.ga K "InvalidNumber")) = some (.type "type")),
  fun K => PySem.W.keepIn K (.ref (He.ga K "InvalidNumber")),
  fun K => decide (PySem.W.typeIn K (.ref (He.ma K (He.ga K "InvalidNumber") "__init__")) = some (.type "function")),
  fun K => decide (PySem.W.findIn K (.ref (He.ga K "InvalidNumber")) "value" = some none),
  fun K => Hs.cvalO (.builtin "ValueError.__init__") (PySem.W.findCls K (.type "ValueError") (.type "type") "__init__"),
  fun K => decide (PySem.W.nsIn K mainGlobals "ValueError" = some none),
  fun K => PySem.W.keepIn K (.ref (He.ga K "need_integer")),
  fun K => PySem.W.plainGet K (He.ga K "CappedOffice") Str.empty,
  fun K => PySem.W.hasDictIn K (He.ga K "CappedOffice"),
  fun K => PySem.W.plainOver K (He.ga K "CappedOffice"),
  fun K => decide (PySem.W.findIn K (.ref (He.ga K "CappedOffice")) "__setattr__" = some (some (.builtin "object.__setattr__"))),
  fun K => Hs.intO (20) (PySem.W.findIn K (.ref (He.ga K "CappedOffice")) "FEE"),
  fun K => PySem.W.plainGet K (He.ga K "Office") Str.empty,
  fun K => PySem.W.hasDictIn K (He.ga K "Office"),
  fun K => PySem.W.plainOver K (He.ga K "Office"),
  fun K => decide (PySem.W.findIn K (.ref (He.ga K "Office")) "__setattr__" = some (some (.builtin "object.__setattr__"))),
  fun K => Hs.intO (20) (PySem.W.findIn K (.ref (He.ga K "Office")) "FEE"),
  fun K => Hs.intO (1000) (PySem.W.findIn K (.ref (He.ga K "CappedOffice")) "LEAST"),
  fun K => Hs.intO (1000) (PySem.W.findIn K (.ref (He.ga K "Office")) "LEAST"),
  fun K => decide (PySem.W.findIn K (.ref (He.ga K "CappedOffice")) "name" = some none),
  fun K => decide (PySem.W.findIn K (.ref (He.ga K "Office")) "name" = some none),
  fun K => decide (PySem.W.findIn K (.ref (He.ga K "CappedOffice")) "own_ends" = some none),
  fun K => decide (PySem.W.findIn K (.ref (He.ga K "Office")) "own_ends" = some none),
  fun K => decide (PySem.W.findIn K (.ref (He.ga K "CappedOffice")) "own_rate" = some none),
  fun K => decide (PySem.W.findIn K (.ref (He.ga K "Office")) "own_rate" = some none),
  fun K => decide (PySem.W.findIn K (.ref (He.ga K "CappedOffice")) "own_fee" = some none),
  fun K => decide (PySem.W.findIn K (.ref (He.ga K "Office")) "own_fee" = some none),
  fun K => decide (PySem.W.findIn K (.ref (He.ga K "CappedOffice")) "own_least" = some none),
  fun K => decide (PySem.W.findIn K (.ref (He.ga K "Office")) "own_least" = some none),
  fun K => PySem.W.keepIn K (.ref (He.ma K (He.ga K "Office") "__init__")),
  fun K => PySem.W.makesIn K (He.ga K "Office"),
  fun K => PySem.W.isFn K (.ref (He.ma K (He.ga K "Office") "__init__")),
  fun K => PySem.W.keepIn K (.ref (He.ga K "Office")),
  fun K => decide (PySem.W.mroIn K (He.ga K "CappedOffice") (.ref (He.ga K "CappedOffice")) = some true),
  fun K => decide (PySem.W.ks_superIn K (He.ga K "CappedOffice") (He.ga K "CappedOffice") "__init__" = some (some (.ref (He.ma K (He.ga K "Office") "__init__")))),
  fun K => decide (PySem.W.typeIn K (.ref (He.ma K (He.ga K "Office") "__init__")) = some (.type "function")),
  fun K => PySem.W.fnIn K (He.ma K (He.ga K "Office") "__init__"),
  fun K => decide (PySem.W.nsIn K cStatics "thirdparty.any" = some none),
  fun K => Hs.intO (1000000) (PySem.W.findIn K (.ref (He.ga K "CappedOffice")) "MOST"),
  fun K => decide (PySem.W.findIn K (.ref (He.ga K "CappedOffice")) "own_most" = some none),
  fun K => (PySem.W.clsIn K (He.ga K "CappedOffice")).isSome,
  fun K => decide (PySem.W.nsIn K mainGlobals "super" = some none),
  fun K => PySem.W.makesIn K (He.ga K "CappedOffice"),
  fun K => PySem.W.isFn K (.ref (He.ma K (He.ga K "CappedOffice") "__init__")),
  fun K => PySem.W.keepIn K (.ref (He.ga K "CappedOffice")),
  fun K => PySem.W.keepIn K (.ref (He.ga K "_law_made")),
  fun K => PySem.W.keepIn K (.ref (He.ga K "_law_any")),
  fun K => decide (PySem.W.nsIn K mainGlobals "max" = some none),
  fun K => PySem.W.keepIn K (.ref (He.ga K "_law_amount")),
  fun K => PySem.W.keepIn K (.ref (He.ga K "_law_is_integer")),
  fun K => decide (PySem.W.nsIn K mainGlobals "repr" = some none),
  fun K => PySem.W.keepIn K (.ref (He.ga K "_law_result")),
  fun K => PySem.W.keepIn K (.ref (He.ga K "_law_due")),
  fun K => decide (PySem.W.exmOne K (.ref (He.ga K "InvalidNumber")) (.ref (He.ga K "Closed")) = some false),
  fun K => decide (PySem.W.exmOne K (.ref (He.ga K "InvalidNumber")) (.ref (He.ga K "InvalidNumber")) = some true),
  fun K => decide (PySem.W.exmOne K (.ref (He.ga K "Closed")) (.ref (He.ga K "Closed")) = some true),
  fun K => decide (PySem.W.exmOne K (.ref (He.ga K "Closed")) (.ref (He.ga K "InvalidNumber")) = some false),
  fun K => decide (PySem.W.kitOne K (.type "NoneType") (.ref (He.ga K "Closed")) = some false),
  fun K => decide (PySem.W.kitOne K (.type "bool") (.ref (He.ga K "Closed")) = some false),
  fun K => decide (PySem.W.kitOne K (.type "int") (.ref (He.ga K "Closed")) = some false),
  fun K => decide (PySem.W.kitOne K (.type "str") (.ref (He.ga K "Closed")) = some false),
  fun K => decide (PySem.W.kitOne K (.type "tuple") (.ref (He.ga K "Closed")) = some false),
  fun K => decide (PySem.W.kitOne K (.type "list") (.ref (He.ga K "Closed")) = some false),
  fun K => decide (PySem.W.kitOne K (.type "dict") (.ref (He.ga K "Closed")) = some false),
  fun K => PySem.W.hasDictIn K (He.ga K "InvalidNumber"),
  fun K => decide (PySem.W.findIn K (.ref (He.ga K "InvalidNumber")) "__getattribute__" = some (some (.builtin "BaseException.__getattribute__"))),
  fun K => decide (PySem.W.findIn K (.ref (He.ga K "InvalidNumber")) "__getattr__" = some none),
  fun K => decide (PySem.W.findIn K (.ref (He.ga K "InvalidNumber")) "__class__" = some (some (.builtin "object.__class__"))),
  fun K => decide (PySem.W.specialIn K (.builtin "object.__class__") "__get__" = some (some (.builtin "getset_descriptor.__get__"))),
  fun K => decide (PySem.W.takesIn K (.builtin "object.__class__") = some true),
  fun K => decide (PySem.W.mroIn K (He.ga K "InvalidNumber") (.type "object") = some true),
  fun K => decide (PySem.W.kitOne K (.ref (He.ga K "InvalidNumber")) (.ref (He.ga K "Closed")) = some false),
  fun K => PySem.W.hasDictIn K (He.ga K "Closed"),
  fun K => decide (PySem.W.findIn K (.ref (He.ga K "Closed")) "__getattribute__" = some (some (.builtin "BaseException.__getattribute__"))),
  fun K => decide (PySem.W.findIn K (.ref (He.ga K "Closed")) "__getattr__" = some none),
  fun K => decide (PySem.W.subIn K (.ref (He.ga K "Closed")) (.type "BaseException") = some true),
  fun K => decide (PySem.W.findIn K (.ref (He.ga K "Closed")) "__class__" = some (some (.builtin "object.__class__"))),
  fun K => decide (PySem.W.mroIn K (He.ga K "Closed") (.type "object") = some true),
  fun K => decide (PySem.W.kitOne K (.ref (He.ga K "Closed")) (.ref (He.ga K "Closed")) = some true),
  fun K => decide (PySem.W.kitOne K (.type "NoneType") (.type "ValueError") = some false),
  fun K => decide (PySem.W.kitOne K (.type "NoneType") (.ref (He.ga K "InvalidNumber")) = some false),
  fun K => decide (PySem.W.kitOne K (.type "bool") (.type "ValueError") = some false),
  fun K => decide (PySem.W.kitOne K (.type "bool") (.ref (He.ga K "InvalidNumber")) = some false),
  fun K => decide (PySem.W.kitOne K (.type "int") (.type "ValueError") = some false),
  fun K => decide (PySem.W.kitOne K (.type "int") (.ref (He.ga K "InvalidNumber")) = some false),
  fun K => decide (PySem.W.kitOne K (.type "str") (.type "ValueError") = some false),
  fun K => decide (PySem.W.kitOne K (.type "str") (.ref (He.ga K "InvalidNumber")) = some false),
  fun K => decide (PySem.W.kitOne K (.type "tuple") (.type "ValueError") = some false),
  fun K => decide (PySem.W.kitOne K (.type "tuple") (.ref (He.ga K "InvalidNumber")) = some false),
  fun K => decide (PySem.W.kitOne K (.type "list") (.type "ValueError") = some false),
  fun K => decide (PySem.W.kitOne K (.type "list") (.ref (He.ga K "InvalidNumber")) = some false),
  fun K => decide (PySem.W.kitOne K (.type "dict") (.type "ValueError") = some false),
  fun K => decide (PySem.W.kitOne K (.type "dict") (.ref (He.ga K "InvalidNumber")) = some false),
  fun K => decide (PySem.W.kitOne K (.ref (He.ga K "InvalidNumber")) (.type "ValueError") = some true),
  fun K => decide (PySem.W.kitOne K (.ref (He.ga K "InvalidNumber")) (.ref (He.ga K "InvalidNumber")) = some true),
  fun K => decide (PySem.W.kitOne K (.ref (He.ga K "Closed")) (.type "ValueError") = some false),
  fun K => decide (PySem.W.kitOne K (.ref (He.ga K "Closed")) (.ref (He.ga K "InvalidNumber")) = some false),
  fun K => decide (PySem.W.kitOne K (.type "NoneType") (.type "RuntimeError") = some false),
  fun K => decide (PySem.W.kitOne K (.type "bool") (.type "RuntimeError") = some false),
  fun K => decide (PySem.W.kitOne K (.type "int") (.type "RuntimeError") = some false),
  fun K => decide (PySem.W.kitOne K (.type "str") (.type "RuntimeError") = some false),
  fun K => decide (PySem.W.kitOne K (.type "tuple") (.type "RuntimeError") = some false),
  fun K => decide (PySem.W.kitOne K (.type "list") (.type "RuntimeError") = some false),
  fun K => decide (PySem.W.kitOne K (.type "dict") (.type "RuntimeError") = some false),
  fun K => decide (PySem.W.kitOne K (.ref (He.ga K "InvalidNumber")) (.type "RuntimeError") = some false),
  fun K => decide (PySem.W.kitOne K (.ref (He.ga K "Closed")) (.type "RuntimeError") = some true),
  fun K => decide (PySem.W.nsIn K mainGlobals "RuntimeError" = some none),
  fun K => decide (PySem.W.findIn K (.ref (He.ga K "Closed")) "name" = some none),
  fun K => decide (PySem.W.findIn K (.ref (He.ga K "InvalidNumber")) "value" = some none),
  fun K => Hs.intO (1000000000000000000000000000000) (PySem.W.nsIn K mainGlobals "COINS"),
  fun K => PySem.W.keepIn K (.ref (He.ga K "need_amount")),
  fun K => decide (PySem.W.ks_superIn K (He.ga K "CappedOffice") (He.ga K "CappedOffice") "result" = some (some (.ref (He.ma K (He.ga K "Office") "result")))),
  fun K => decide (PySem.W.typeIn K (.ref (He.ma K (He.ga K "Office") "result")) = some (.type "function")),
  fun K => PySem.W.fnIn K (He.ma K (He.ga K "Office") "result"),
  fun K => PySem.W.keepIn K (.ref (He.ma K (He.ga K "Office") "result")),
  fun K => PySem.W.isFn K (.ref (He.ma K (He.ga K "CappedOffice") "result")),
  fun K => PySem.W.keepIn K (.ref (He.ma K (He.ga K "CappedOffice") "result")),
  fun K => PySem.W.isFn K (.ref (He.ma K (He.ga K "Office") "result")),
  fun K => PySem.W.keepIn K (.ref (He.ma K (He.ga K "Closed") "__init__")),
  fun K => decide (PySem.W.findIn K (.ref (He.ga K "Closed")) "__setattr__" = some (some (.builtin "object.__setattr__"))),
  fun K => decide (PySem.W.typeIn K (.ref (He.ga K "Closed")) = some (.type "type")),
  fun K => PySem.W.keepIn K (.ref (He.ga K "Closed")),
  fun K => decide (PySem.W.typeIn K (.ref (He.ma K (He.ga K "Closed") "__init__")) = some (.type "function")),
  fun K => decide (PySem.W.findIn K (.ref (He.ga K "Closed")) "name" = some none),
  fun K => Hs.cvalO (.builtin "RuntimeError.__init__") (PySem.W.findCls K (.type "RuntimeError") (.type "type") "__init__"),
  fun K => PySem.W.isFn K (.ref (He.ma K (He.ga K "Office") "__call__")),
  fun K => PySem.W.fnIn K (He.ma K (He.ga K "Office") "__call__"),
  fun K => PySem.W.keepIn K (.ref (He.ma K (He.ga K "Office") "__call__")),
  fun K => PySem.W.keepIn K (.ref (He.ga K "_law_told")),
  fun K => PySem.W.isFn K (.ref (He.ma K (He.ga K "Office") "is_open")),
  fun K => PySem.W.keepIn K (.ref (He.ma K (He.ga K "Office") "is_open")),
  fun K => decide (PySem.W.specialIn K (.ref (He.ma K (He.ga K "CappedOffice") "most")) "__get__" = some (some (.builtin "property.__get__"))),
  fun K => decide (PySem.W.takesIn K (.ref (He.ma K (He.ga K "CappedOffice") "most")) = some true),
  fun K => PySem.W.keepIn K (.ref (Hs.pf K (He.ma K (He.ga K "CappedOffice") "most"))),
  fun K => decide (PySem.W.specialIn K (.ref (He.ma K (He.ga K "Office") "most")) "__get__" = some (some (.builtin "property.__get__"))),
  fun K => decide (PySem.W.takesIn K (.ref (He.ma K (He.ga K "Office") "most")) = some true),
  fun K => PySem.W.keepIn K (.ref (Hs.pf K (He.ma K (He.ga K "Office") "most"))),
  fun K => decide (PySem.W.specialIn K (.ref (He.ma K (He.ga K "Office") "least")) "__get__" = some (some (.builtin "property.__get__"))),
  fun K => decide (PySem.W.takesIn K (.ref (He.ma K (He.ga K "Office") "least")) = some true),
  fun K => PySem.W.keepIn K (.ref (Hs.pf K (He.ma K (He.ga K "Office") "least"))),
  fun K => decide (PySem.W.specialIn K (.ref (He.ma K (He.ga K "Office") "fee")) "__get__" = some (some (.builtin "property.__get__"))),
  fun K => decide (PySem.W.takesIn K (.ref (He.ma K (He.ga K "Office") "fee")) = some true),
  fun K => PySem.W.keepIn K (.ref (Hs.pf K (He.ma K (He.ga K "Office") "fee"))),
  fun K => decide (PySem.W.specialIn K (.ref (He.ma K (He.ga K "Office") "rate")) "__get__" = some (some (.builtin "property.__get__"))),
  fun K => decide (PySem.W.takesIn K (.ref (He.ma K (He.ga K "Office") "rate")) = some true),
  fun K => PySem.W.keepIn K (.ref (Hs.pf K (He.ma K (He.ga K "Office") "rate"))),
  fun K => decide (PySem.W.specialIn K (.ref (He.ma K (He.ga K "Office") "goal")) "__get__" = some (some (.builtin "property.__get__"))),
  fun K => decide (PySem.W.takesIn K (.ref (He.ma K (He.ga K "Office") "goal")) = some true),
  fun K => PySem.W.keepIn K (.ref (Hs.pf K (He.ma K (He.ga K "Office") "goal"))),
  fun K => decide (PySem.W.specialIn K (.ref (He.ma K (He.ga K "Office") "source")) "__get__" = some (some (.builtin "property.__get__"))),
  fun K => decide (PySem.W.takesIn K (.ref (He.ma K (He.ga K "Office") "source")) = some true),
  fun K => PySem.W.keepIn K (.ref (Hs.pf K (He.ma K (He.ga K "Office") "source"))),
  fun K => decide (PySem.W.kitOne K (.type "NoneType") (.ref (He.ga K "CappedOffice")) = some false),
  fun K => decide (PySem.W.kitOne K (.type "bool") (.ref (He.ga K "CappedOffice")) = some false),
  fun K => decide (PySem.W.kitOne K (.type "int") (.ref (He.ga K "CappedOffice")) = some false),
  fun K => decide (PySem.W.kitOne K (.type "str") (.ref (He.ga K "CappedOffice")) = some false),
  fun K => decide (PySem.W.kitOne K (.type "tuple") (.ref (He.ga K "CappedOffice")) = some false),
  fun K => decide (PySem.W.kitOne K (.type "list") (.ref (He.ga K "CappedOffice")) = some false),
  fun K => decide (PySem.W.kitOne K (.type "dict") (.ref (He.ga K "CappedOffice")) = some false),
  fun K => decide (PySem.W.findIn K (.ref (He.ga K "CappedOffice")) "__class__" = some (some (.builtin "object.__class__"))),
  fun K => decide (PySem.W.mroIn K (He.ga K "CappedOffice") (.type "object") = some true),
  fun K => decide (PySem.W.kitOne K (.ref (He.ga K "CappedOffice")) (.ref (He.ga K "CappedOffice")) = some true),
  fun K => decide (PySem.W.findIn K (.ref (He.ga K "Office")) "__class__" = some (some (.builtin "object.__class__"))),
  fun K => decide (PySem.W.mroIn K (He.ga K "Office") (.type "object") = some true),
  fun K => decide (PySem.W.kitOne K (.ref (He.ga K "Office")) (.ref (He.ga K "Office")) = some true),
  fun K => decide (PySem.W.kitOne K (.ref (He.ga K "Office")) (.ref (He.ga K "CappedOffice")) = some false),
  fun K => PySem.W.keepIn K (.ref (He.ga K "_law_values")),
  fun K => PySem.W.keepIn K (.ref (He.ga K "law")),
  fun K => lamKB K (He.ga K "law") (He.ga K "__builtins__") "law.<locals>.<lambda>"]
def fns : List Hs.Df := [
  ⟨fun K => (He.ga K "law"), "law", "law", s_law, [], 0⟩,
  ⟨fun K => (He.ga K "_law_pen"), "_law_pen", "_law_pen", s_law_pen, [], 0⟩,
  ⟨fun K => (He.ga K "_law_names"), "_law_names", "_law_names", s_law_names, [], 0⟩,
  ⟨fun K => (He.ga K "_law_draw"), "_law_draw", "_law_draw", s_law_draw, [], 0⟩,
  ⟨fun K => (He.ga K "_law_pick"), "_law_pick", "_law_pick", s_law_pick, [], 0⟩,
  ⟨fun K => (He.ga K "_law_row"), "_law_row", "_law_row", s_law_row, [], 0⟩,
  ⟨fun K => (He.ga K "_law_digits"), "_law_digits", "_law_digits", s_law_digits, [], 0⟩,
  ⟨fun K => (He.ga K "_law_made"), "_law_made", "_law_made", s_law_made, [], 0⟩,
  ⟨fun K => (He.ma K (He.ga K "Office") "__init__"), "__init__", "Office.__init__", s_Office_init, [], 0⟩,
  ⟨fun K => (He.ga K "need_name"), "need_name", "need_name", s_need_name, [], 0⟩,
  ⟨fun K => (He.ga K "is_name"), "is_name", "is_name", s_is_name, [], 0⟩,
  ⟨fun K => (He.ga K "is_rate"), "is_rate", "is_rate", s_is_rate, [], 0⟩,
  ⟨fun K => (He.ga K "is_integer"), "is_integer", "is_integer", s_is_integer, [], 0⟩,
  ⟨fun K => (He.ga K "need_integer"), "need_integer", "need_integer", s_need_integer, [], 0⟩,
  ⟨fun K => (He.ma K (He.ga K "InvalidNumber") "__init__"), "__init__", "InvalidNumber.__init__", s_InvalidNumber_init, [], 0⟩,
  ⟨fun K => (He.ma K (He.ga K "CappedOffice") "__init__"), "__init__", "CappedOffice.__init__", s_CappedOffice_init, ["__class__"], 0⟩,
  ⟨fun K => (He.ga K "_law_any"), "_law_any", "_law_any", s_law_any, [], 0⟩,
  ⟨fun K => (He.ga K "_law_amount"), "_law_amount", "_law_amount", s_law_amount, [], 0⟩,
  ⟨fun K => (He.ga K "_law_due"), "_law_due", "_law_due", s_law_due, [], 0⟩,
  ⟨fun K => (He.ga K "_law_is_integer"), "_law_is_integer", "_law_is_integer", s_law_is_integer, [], 0⟩,
  ⟨fun K => (He.ga K "_law_result"), "_law_result", "_law_result", s_law_result, [], 0⟩,
  ⟨fun K => (He.ga K "_law_told"), "_law_told", "_law_told", s_law_told, [], 0⟩,
  ⟨fun K => (He.ma K (He.ga K "Office") "__call__"), "__call__", "Office.__call__", s_Office_call, [], 0⟩,
  ⟨fun K => (He.ga K "need_amount"), "need_amount", "need_amount", s_need_amount, [], 0⟩,
  ⟨fun K => (He.ma K (He.ga K "Office") "result"), "result", "Office.result", s_Office_result, [], 0⟩,
  ⟨fun K => (He.ma K (He.ga K "CappedOffice") "result"), "result", "CappedOffice.result", s_CappedOffice_result, ["__class__"], 0⟩,
  ⟨fun K => (He.ma K (He.ga K "Closed") "__init__"), "__init__", "Closed.__init__", s_Closed_init, [], 0⟩,
  ⟨fun K => (He.ma K (He.ga K "Office") "is_open"), "is_open", "Office.is_open", s_Office_is_open, [], 0⟩,
  ⟨fun K => (He.ga K "_law_values"), "_law_values", "_law_values", s_law_values, [], 0⟩,
  ⟨fun K => (Hs.pf K (He.ma K (He.ga K "Office") "most")), "most", "Office.most", s_Office_most, [], 0⟩,
  ⟨fun K => (Hs.pf K (He.ma K (He.ga K "CappedOffice") "most")), "most", "CappedOffice.most", s_CappedOffice_most, [], 0⟩,
  ⟨fun K => (Hs.pf K (He.ma K (He.ga K "Office") "least")), "least", "Office.least", s_Office_least, [], 0⟩,
  ⟨fun K => (Hs.pf K (He.ma K (He.ga K "Office") "fee")), "fee", "Office.fee", s_Office_fee, [], 0⟩,
  ⟨fun K => (Hs.pf K (He.ma K (He.ga K "Office") "rate")), "rate", "Office.rate", s_Office_rate, [], 0⟩,
  ⟨fun K => (Hs.pf K (He.ma K (He.ga K "Office") "goal")), "goal", "Office.goal", s_Office_goal, [], 0⟩,
  ⟨fun K => (Hs.pf K (He.ma K (He.ga K "Office") "source")), "source", "Office.source", s_Office_source, [], 0⟩]
def lms : List (Hs.Frag → Addr × Str) := [fun K => ((He.ga K "law"), "law.<locals>.<lambda>")]
abbrev hk : PySem.W.Hook := Hs.hookL 4000 lms ex fns
def ob (s : PySem.W.SharedT) : Hs.Al := Hs.obsL 4000 lms ex fns (HandSHeadRun.getT s)
theorem ob_eq (s : PySem.W.SharedT) : ob s = hk.obs s.abs := Hs.obsL_eq
theorem run (w : World) : HandSHeadRun.RunEq R (PySem.W.view R.prog [39]) hk ob 40000 nms w := by
  intro os
  kernel_rfl
end Lw
/-! Tr2: classes made, their own handles dropped. -/
namespace Dn
open PySem L2 ClX StX PySem.Spec PyProof.Rows
end Dn
/-! Dt1: dicts read: d[k], k in d, d.get; own `__getitem__` and `__contains__`; a[b] and x in y of whatever stands there. -/
namespace Dn
open PySem L2 ClX StX PySem.Spec PyProof.Rows PySem.Calls
/-- a dict's pairs -/
def dicP (st : List MO) : PV → Option (List (Key × PV))
  | .hnd n => match st[n]? with
    | some (.dic kvs) => some kvs
    | _ => none
  | .dct ks vs => some (ks.zip vs)
  | _ => none
def keyP : PV → Option Key
  | .str x => some (.inr x)
  | .int i => some (.inl i)
  | _ => none
section
variable {Y : WX} {K : PySem.W.Frag} {C : Ctx} {W W' : Vw} {σ : L2.St} {H : Hp} {s : S} {v w : V} {a b d : PV} {Q : VK} {k : Key} {ca cb cc : M PV}
theorem kvs_zip : ∀ {ks : List Key} {us : List V} {vs : List PV}, ks.length = vs.length → Reps K W us vs → KVs K W (ks.zip us) (ks.zip vs)
  | [], _, [], _, .nil => .nil
  | k :: ks, _, _ :: _, hl, .cons h r => .cons h (kvs_zip (Nat.succ.inj hl) r)
  | [], _, _ :: _, hl, _ => by cases hl
  | _ :: _, _, [], hl, _ => by cases hl
theorem dic_rep {kvs : List (Key × PV)} (at' : At K C W s σ H) (r : Rep K W v d) (e : dicP s.sto d = some kvs) : ∃ x q, v = .ref x ∧ Rd H x (.dK q) ∧ KVs K W q kvs := by
  cases r <;> try (have e : (none : Option (List (Key × PV))) = some kvs := e; cases e)
  · rename_i x n hn
    unfold dicP at e
    dsimp only at e
    split at e
    · rename_i q hs
      cases e
      cases (at'.ok.live hn hs (fun z => nomatch z)).2 with
      | dic hH kv => exact ⟨x, _, rfl, .inl hH, kv⟩
    · cases e
  · rename_i x o ks us vs h hl hr
    cases e
    exact ⟨x, _, rfl, .inr ⟨o, at'.ok.sub _ _ h⟩, kvs_zip hl hr⟩
inductive RepO (K : PySem.W.Frag) (W : Vw) : Option V → Option PV → Prop
  | no : RepO K W none none
  | so {v : V} {d : PV} : Rep K W v d → RepO K W (some v) (some d)
end
/-! ### a[b] -/
/-! ### x in y -/
end Dn
/-! Dt2: dict comprehensions; d[k] = v; d.get; new dicts. -/
namespace Dn
open PySem L2 ClX StX PySem.Spec PyProof.Rows PySem.Calls
/-! ### {k: v for x in xs if t}: a new handle -/
section
variable {Y : WX} {K : PySem.W.Frag} {C : Ctx} {W W' : Vw} {σ : L2.St} {H : Hp} {s : S} {v w : V} {a b d : PV} {Q : VK} {k : Key} {ca cb cc : M PV}
theorem RepO.getD {o : Option V} {q : Option PV} {u : V} {d : PV} (r : RepO K W o q) (ru : Rep K W u d) : Rep K W (o.getD u) (q.getD d) := by
  cases r with
  | no => exact ru
  | so h => exact h
end
end Dn
/-! Dt3: dicts walked, sorted, counted, copied; displays; keys. -/
namespace Dn
open PySem L2 ClX StX PySem.Spec PyProof.Rows PySem.Calls
section
variable {Y : WX} {K : PySem.W.Frag} {C : Ctx} {W W' : Vw} {σ : L2.St} {H : Hp} {s : S} {v w : V} {a b d : PV} {Q : VK} {k : Key} {ca cb cc : M PV}
theorem RdV.dic {kvs : List (Key × PV)} (at' : At K C W s σ H) (r : RdV K W H v d) (e : dicP s.sto d = some kvs) : ∃ x q, v = .ref x ∧ Rd H x (.dK q) ∧ KVs K W q kvs := by
  cases r with
  | rep r => exact dic_rep at' r e
  | own => cases e
/-! ### walked -/
/-! ### len -/
/-! ### sorted -/
end
end Dn
/-! Dt4: sorted and min of whatever; isinstance against several built-in types; dict(..); displays; keys; pop(); a, b = [..], e. -/
namespace Dn
open PySem L2 ClX StX PySem.Spec PyProof.Rows PySem.Calls
section
variable {Y : WX} {K : PySem.W.Frag} {C : Ctx} {W W' : Vw} {σ : L2.St} {H : Hp} {s : S} {v w : V} {a b d : PV} {Q : VK} {k : Key} {ca cb cc : M PV}
/-! ### sorted -/
/-! ### min of texts -/
/-! ### isinstance against several built-in types -/
/-! ### dict(..): a new dict -/
def pairP : PV → Option (Key × PV)
  | .tup [k, v] => (keyP k).map fun k => (k, v)
  | _ => none
def pairsP : List PV → Option (List (Key × PV))
  | [] => some []
  | d :: ds => match pairP d, pairsP ds with
    | some p, some ps => some (p :: ps)
    | _, _ => none
def fDict (a : PV) : M (List (Key × PV)) := fun s => match dicP s.sto a with
  | some kvs => .ok kvs s
  | none => match a with
    | .lst ds => (match pairsP ds with
      | some kvs => .ok (mergeP [] kvs) s
      | none => .stk)
    | _ => .stk
/-! ### displays with any keys -/
/-! ### (a, b) as a key -/
/-! ### xs.pop() -/
end
end Dn
/-! Dt5: a, b = [..], e; nested patterns; is of truth values; while of an own list; rows of own getitem and contains. -/
namespace Dn
open PySem L2 ClX StX PySem.Spec PyProof.Rows PySem.Calls
/-! ### in rows -/
end Dn
/-! Dt6: < <= > >= of ints or texts. -/
namespace Dn
open PySem L2 ClX StX PySem.Spec PyProof.Rows PySem.Calls
end Dn
/-! Dt7: a list repeated, kept as an own list. -/
namespace Dn
open PySem L2 ClX StX PySem.Spec PyProof.Rows PySem.Calls
end Dn
/-! Tg: a module's tuple of texts read. -/
namespace Dn
open PySem L2 ClX StX NdefX PySem.Spec PyProof.Rows
end Dn
/-! Sv1: methods with a star parameter. -/
namespace Dn
open PySem L2 ClX StX NdefX PySem.Spec PyProof.Rows
end Dn
/-! Sv2: a chain as a test; the values of an own dict, key by key. -/
namespace Dn
open PySem L2 ClX StX NdefX PySem.Spec PyProof.Rows
/-! ### [d[k] for k in d] -/
section
variable {K : PySem.W.Frag} {W W' : Vw} {a : Addr}
theorem KVs.split {κ : Type} : ∀ {us : List (κ × V)} {ds : List (κ × PV)}, KVs K W us ds → Reps K W (us.map (·.2)) (ds.map (·.2)) ∧ us = (ds.map (·.1)).zip (us.map (·.2)) ∧ us.length = ds.length
  | _, _, .nil => ⟨.nil, rfl, rfl⟩
  | _, _, .cons (k := k) (v := v) (d := d) (r := r) (s := s) q t => by
    obtain ⟨h1, h2, h3⟩ := KVs.split t
    refine ⟨.cons q h1, ?_, by rw [List.length_cons, List.length_cons, h3]⟩
    show (k, v) :: r = (k, v) :: ((s.map (·.1)).zip (r.map (·.2)))
    rw [← h2]
/-- more things in the heap -/
theorem At.more {C : Ctx} {s : S} {σ : L2.St} {H H3 F3 : Hp} (h : At K C W s σ H) (hH : ∀ b o, H b = some o → Kp o (H3 b)) (hT : TabK K ⟨F3, W.hs⟩ H3) (hF : ∀ b, H b ≠ none → F3 b = W.F b) (hS : Same F3 H3) : W.Le ⟨F3, W.hs⟩ ∧ At K C ⟨F3, W.hs⟩ s σ H3 := by
  have le : W.Le ⟨F3, W.hs⟩ := ⟨fun b u e => by
    have := h.ok.sub b u e
    show F3 b = some u
    rw [hF b (by rw [this]; exact fun z => nomatch z)]
    exact e, fun _ _ e => e⟩
  have hG : ∀ b, C.G b ≠ none → H b ≠ none := fun b hb => by
    by_cases hm : b ∈ C.hs0
    · obtain ⟨m, hm⟩ := List.getElem?_of_mem hm
      rcases h.ok.hnd m b (h.pre m b hm) with ⟨_, mo, _, mr⟩ | ⟨g, _⟩
      · cases mr with
        | dic e _ => rw [e]; exact fun z => nomatch z
        | ins _ e _ _ _ _ => rw [e]; exact fun z => nomatch z
        | own _ e => rw [e]; exact fun z => nomatch z
        | dtt e _ => rw [e]; exact fun z => nomatch z
      · cases e : W.F b with
        | none => exact absurd e g
        | some u => rw [h.ok.sub b u e]; exact fun z => nomatch z
    · cases e : C.G b with
      | none => exact absurd e hb
      | some o => exact (h.keep b o e hm).ne
  refine ⟨le, ⟨⟨hS, fun m b e => ?_, h.ok.nd, h.ok.len, hT⟩, fun b o e n => (h.keep b o e n).trans fun o' e' => hH b o' e', h.pre, fun b hb => ?_, h.len, fun j d e => ?_, fun j ys e => ?_, h.dst⟩⟩
  · rcases h.ok.hnd m b e with ⟨f, mo, e1, mr⟩ | ⟨g, e1⟩
    · have hb : H b ≠ none := by
        cases mr with
        | dic e _ => rw [e]; exact fun z => nomatch z
        | ins _ e _ _ _ _ => rw [e]; exact fun z => nomatch z
        | own _ e => rw [e]; exact fun z => nomatch z
        | dtt e _ => rw [e]; exact fun z => nomatch z
      refine .inl ⟨(hF b hb).trans f, mo, e1, ?_⟩
      cases mr with
      | dic e k => exact .dic ((hH _ _ e).eq fun _ z => nomatch z) (k.mono le)
      | ins c e n1 n2 l r => exact .ins c ((hH _ _ e).eq fun _ z => nomatch z) n1 n2 l (r.mono le)
      | own n e => exact .own n ((hH _ _ e).eq fun _ z => nomatch z)
      | dtt e k => exact .dtt ((hH _ _ e).eq fun _ z => nomatch z) (k.mono le)
    · refine .inr ⟨fun z => ?_, e1⟩
      cases q : W.F b with
      | none => exact g q
      | some u =>
        have hb : H b ≠ none := by rw [h.ok.sub b u q]; exact fun z => nomatch z
        have z : F3 b = none := z
        rw [hF b hb, q] at z
        cases z
  · obtain ⟨g1, g2⟩ := h.gro b hb
    exact ⟨(hF b (hG b hb)).trans g1, g2⟩
  · obtain ⟨v, e1, r⟩ := h.val j d e
    exact ⟨v, e1, r.mono le⟩
  · obtain ⟨x, vs, e1, ow, e2, r⟩ := h.own j ys e
    exact ⟨x, vs, e1, ⟨(hF x (by rw [e2]; exact fun z => nomatch z)).trans ow.f, ow.h, ow.g⟩, (hH _ _ e2).eq (fun _ z => nomatch z), r.mono le⟩
end
end Dn
/-! Sv3: calls that leave out keyword-only arguments with defaults. -/
namespace Dn
open PySem L2 ClX StX NdefX PySem.Spec PyProof.Rows
end Dn
/-! Sv4: a def's keyword-only defaults, left out. -/
namespace Dn
open PySem L2 ClX StX NdefX PySem.Spec PyProof.Rows
end Dn
/-! Sv5: d.clear(). -/
namespace Dn
open PySem L2 ClX StX NdefX PySem.Spec PyProof.Rows
end Dn
/-! Sv6: an expression that reads a live own dict as if it were frozen: its keys, walked. -/
namespace Dn
open PySem L2 ClX StX NdefX PySem.Spec PyProof.Rows
/-! ### isinstance(x, dict), x a live dict perhaps -/
end Dn
set_option maxHeartbeats 4000000
/-! Se1: set(xs) of a list of ints, sorted(set(xs)). -/
namespace Dn
open PySem L2 ClX StX NdefX PySem.Spec PyProof.Rows
end Dn
/-! Se2: sorted(set(xs)), xs a list of ints. -/
namespace Dn
open PySem L2 ClX StX NdefX PySem.Spec PyProof.Rows
end Dn
set_option maxHeartbeats 4000000
/-! So1: sorted(rows), the rows tuples whose first items are texts, no two the same. -/
namespace Dn
open PySem L2 ClX StX NdefX PySem.Spec PyProof.Rows
/-- the head of a row, as data -/
def dHead : PyData → Option Str
  | .tuple (.str x :: _) => some x
  | _ => none
structure RowsOk (ds : List PyData) (hs : List Str) : Prop where
  heads : ds.map dHead = hs.map some
  nd : hs.Nodup
  like : ∀ d ∈ ds, PySem.W.alike d d = true
  depth : ∀ d ∈ ds, d.depth ≤ 64
theorem dHead_some {d : PyData} {x : Str} (h : dHead d = some x) : ∃ r, d = .tuple (.str x :: r) := by
  unfold dHead at h
  split at h
  · cases h
    exact ⟨_, rfl⟩
  · cases h
theorem RowsOk.at {ds : List PyData} {hs : List Str} (R : RowsOk ds hs) {d : PyData} (h : d ∈ ds) : ∃ x r, d = .tuple (.str x :: r) ∧ dHead d = some x := by
  have hm : dHead d ∈ hs.map some := by
    rw [← R.heads]
    exact List.mem_map.mpr ⟨d, h, rfl⟩
  obtain ⟨x, _, e⟩ := List.mem_map.mp hm
  obtain ⟨r, e2⟩ := dHead_some e.symm
  exact ⟨x, r, e2, e.symm⟩
end Dn
set_option maxHeartbeats 4000000
/-! So2: sorted of whatever: rows too. -/
namespace Dn
open PySem L2 ClX StX NdefX PySem.Spec PyProof.Rows
end Dn
set_option maxHeartbeats 4000000
/-! So4: a text times a number, int(text). -/
namespace Dn
open PySem L2 ClX StX NdefX PySem.Spec PyProof.Rows
end Dn
set_option maxHeartbeats 4000000
/-! So5: max of a list or tuple of ints. -/
namespace Dn
open PySem L2 ClX StX NdefX PySem.Spec PyProof.Rows
end Dn
set_option maxHeartbeats 4000000
/-! So6: three names at once, the second one an own list. -/
namespace Dn
open PySem L2 ClX StX NdefX PySem.Spec PyProof.Rows
end Dn
set_option maxHeartbeats 4000000
/-! So7: repr of a dict of texts to numbers or None, frozen or live. -/
namespace Dn
open PySem L2 ClX StX NdefX PySem.Spec PyProof.Rows
def oD : Option Int → PyData
  | none => .none
  | some i => .int i
end Dn
set_option maxHeartbeats 4000000
/-! So8: the values of a dict walked; three names at once, the third one an own list. -/
namespace Dn
open PySem L2 ClX StX NdefX PySem.Spec PyProof.Rows
end Dn
set_option maxHeartbeats 4000000
/-! So10: dicts of texts to numbers or None compared by !=: of other lengths, or equal. -/
namespace Dn
open PySem L2 ClX StX NdefX PySem.Spec PyProof.Rows
end Dn
set_option maxHeartbeats 4000000
/-! So11: list of a dict: its keys. -/
namespace Dn
open PySem L2 ClX StX NdefX PySem.Spec PyProof.Rows
end Dn
set_option maxHeartbeats 4000000
/-! So12: a method with a star parameter called without arguments. -/
namespace Dn
open PySem L2 ClX StX NdefX PySem.Spec PyProof.Rows
end Dn
set_option maxHeartbeats 4000000
/-! So14: xs.extend(ys), len(set(xs)) of texts. -/
namespace Dn
open PySem L2 ClX StX NdefX PySem.Spec PyProof.Rows
/-! ### how many texts differ -/
/-! ### set(xs) -/
/-! ### xs.extend(ys) -/
end Dn
set_option maxHeartbeats 4000000
/-! So15: defs that return a list of their own, which the caller may change; three names at once, some of them own lists. -/
namespace Dn
open PySem L2 ClX StX NdefX PySem.Spec PyProof.Rows
section
variable {Y : WX} {X : Cx} {K : PySem.W.Frag} {D : Ends} {σ : L2.St} {H : Hp} {Q : VK} {ca cc : M PV} {cb cd ce : M (List PV)} {a b c e : Expr} {p pos px : Pos} {i j k : Nat}
/-! ### return of an own list -/
/-! ### a slice that a name will own -/
def slO (c : M PV) (lo hi : M (Option Int)) : M (List PV) := bnd c fun d => bnd lo fun a => bnd hi fun b => lft (match d with
  | .lst xs => some (cutP xs a b)
  | _ => none)
theorem denO_sl {lo hi : M (Option Int)} (h : denO K Y (slO ca lo hi) σ H Q) : tSl (rSlU K) (den K Y ca) (denP K Y lo) (denP K Y hi) σ H Q := by
  obtain ⟨C, W, s, at', p⟩ := h
  refine ⟨C, W, s, at', (Pst.bnd p).imp fun d s1 W1 H1 l1 at1 p1 v rv => ⟨C, W1, s1, at1, (Pst.bnd p1).imp fun a s2 W2 H2 l2 at2 p2 => ⟨C, W2, s2, at2, (Pst.bnd p2).imp fun b s3 W3 H3 l3 at3 p3 => ?_⟩⟩⟩
  obtain ⟨z, ez, q⟩ := p3.lft at3
  have rv := rv.mono (l2.trans l3)
  cases d <;> try cases ez
  cases rv with
  | lst hx rx => exact .inl (.inl ⟨_, _, rfl, SqL.of (at3.ok.sub _ _ hx), fun p hp => q p _ hp (rx.cut a b)⟩)
/-! ### calls -/
abbrev FnL := Nat → List PV → List MO → Res (List MO) (List PV)
end
/-! ### in rows -/
section
variable {Y : WX} {X : Cx} {K : PySem.W.Frag} {D : Ends} {σ : L2.St} {H : Hp} {Q : VK} {ca cc : M PV} {cb cd ce cs : M (List PV)} {a b c e : Expr} {es : List Expr} {p pos px : Pos} {i j k l : Nat} {m : FnL} {x : Str} {ps : List Str}
theorem osl {lo hi : Option Expr} {clo chi : M (Option Int)} {p2 : Pos} (h : PE X e (den X.K Y ca)) (hl : PO X lo (denP X.K Y clo)) (hu : PO X hi (denP X.K Y chi)) : PE X (.Subscript e (.Slice lo hi none p2) pos) (denO X.K Y (slO ca clo chi)) := pe_imp (pe_slice sl_u h hl hu) fun _ _ _ => denO_sl
/-! ### three names at once -/
variable {y z : Str} {kt k2 : Nat} {py pz pt pt2 : Pos}
end
end Dn
/-! Gn1: code that runs while a generator sleeps leaves it asleep: what a run does is the same whatever the sleepers would do. -/
namespace Gn
open PySem PySem.Spec PyProof.Rows
open Sem (wp)
/-- a sleeper that cannot be woken -/
def poison : GenState → GenState
  | .suspended _ l c p fs cl => .suspended (fun _ => .unsupported "asleep") l c p fs cl
  | x => x
def asleep : GenState → Prop
  | .suspended .. => True
  | _ => False
def tidy : GenState → Prop
  | .suspended _ _ _ _ fs _ => splitAtGen fs = none
  | _ => True
theorem poison_bare (x : GenState) : (poison x).bare = x.bare := by cases x <;> rfl
/-- r is the real state, s the one whose sleepers D are poisoned -/
structure Rel (D : Nat → Prop) (f : Nat → GenState) (s r : Shared) : Prop where
  eq : s = { r with gens := s.gens }
  sz : s.gens.size = r.gens.size
  d : ∀ h, D h → asleep (f h) ∧ r.gens[h]? = some (f h) ∧ s.gens[h]? = some (poison (f h))
  o : ∀ h, ¬ D h → s.gens[h]? = r.gens[h]? ∧ ∀ x, s.gens[h]? = some x → tidy x
section
variable {D : Nat → Prop} {f : Nat → GenState} {s r : Shared}
theorem Rel.heap (h : Rel D f s r) : s.heap = r.heap := by rw [h.eq]
theorem Rel.toks (h : Rel D f s r) : s.toks = r.toks := by rw [h.eq]
theorem Rel.drawn (h : Rel D f s r) : s.drawn = r.drawn := by rw [h.eq]
theorem Rel.os (h : Rel D f s r) : s.os = r.os := by rw [h.eq]
theorem Rel.to (h : Rel D f s r) {h' : Heap} {d' : Drawn} {t' : Nat} {o' : OsState} : Rel D f { s with heap := h', drawn := d', toks := t', os := o' } { r with heap := h', drawn := d', toks := t', os := o' } := ⟨rfl, h.sz, h.d, h.o⟩
theorem setGen_get {s : Shared} {g h : Nat} {x : GenState} : (s.setGen g x).gens[h]? = if g = h ∧ g < s.gens.size then some x else s.gens[h]? := by
  show (s.gens.setIfInBounds g x)[h]? = _
  by_cases e : g = h
  · subst e
    by_cases l : g < s.gens.size
    · rw [if_pos ⟨rfl, l⟩]; simp [l]
    · rw [if_neg (fun z => l z.2)]
      rw [Array.getElem?_eq_none (by simpa using l), Array.getElem?_eq_none (by omega)]
  · rw [if_neg (fun z => e z.1), Array.getElem?_setIfInBounds_ne e]
theorem Rel.set (h : Rel D f s r) {g : Nat} (hg : ¬ D g) {x : GenState} (hx : tidy x) : Rel D f (s.setGen g x) (r.setGen g x) := by
  refine ⟨?_, ?_, fun k hk => ?_, fun k hk => ?_⟩
  · show ({ s with gens := _ } : Shared) = _
    rw [h.eq]
    rfl
  · show (s.gens.setIfInBounds g x).size = (r.gens.setIfInBounds g x).size
    rw [Array.size_setIfInBounds, Array.size_setIfInBounds]; exact h.sz
  · obtain ⟨h0, h1, h2⟩ := h.d k hk
    have ne : g ≠ k := fun z => hg (z ▸ hk)
    rw [setGen_get, setGen_get, if_neg (fun z => ne z.1), if_neg (fun z => ne z.1)]
    exact ⟨h0, h1, h2⟩
  · rw [setGen_get, setGen_get, h.sz]
    obtain ⟨h1, h2⟩ := h.o k hk
    split
    · exact ⟨rfl, fun y e => by cases e; exact hx⟩
    · exact ⟨h1, h2⟩
theorem Rel.push (h : Rel D f s r) {c : Code} : Rel D f { s with gens := s.gens.push (.fresh c) } { r with gens := r.gens.push (.fresh c) } := by
  refine ⟨?_, ?_, fun k hk => ?_, fun k hk => ?_⟩
  · rw [h.eq]
  · show (s.gens.push _).size = (r.gens.push _).size
    rw [Array.size_push, Array.size_push, h.sz]
  · obtain ⟨h0, h1, h2⟩ := h.d k hk
    have l1 : k < r.gens.size := (Array.getElem?_eq_some_iff.mp h1).1
    have l2 : k < s.gens.size := (Array.getElem?_eq_some_iff.mp h2).1
    refine ⟨h0, ?_, ?_⟩
    · show (r.gens.push _)[k]? = _
      rw [Array.getElem?_push, if_neg (by omega)]; exact h1
    · show (s.gens.push _)[k]? = _
      rw [Array.getElem?_push, if_neg (by omega)]; exact h2
  · obtain ⟨h1, h2⟩ := h.o k hk
    show (s.gens.push _)[k]? = (r.gens.push _)[k]? ∧ ∀ x, (s.gens.push _)[k]? = some x → tidy x
    rw [Array.getElem?_push, Array.getElem?_push, h.sz]
    split
    · exact ⟨rfl, fun y e => by cases e; trivial⟩
    · exact ⟨h1, h2⟩
end
theorem Rel.bare {D : Nat → Prop} {f : Nat → GenState} {s r : Shared} (h : Rel D f s r) (hb : AllBare s.gens) : AllBare r.gens := fun x hx => by
  obtain ⟨i, hi, e⟩ := Array.mem_iff_getElem.mp hx
  have q : r.gens[i]? = some x := by rw [Array.getElem?_eq_getElem hi, e]
  by_cases hd : D i
  · obtain ⟨_, h1, h2⟩ := h.d i hd
    rw [q] at h1
    have z := hb _ (Array.mem_of_getElem? h2)
    rw [poison_bare] at z
    cases h1
    exact z
  · exact hb x (Array.mem_of_getElem? ((h.o i hd).1.trans q))
end Gn
set_option maxHeartbeats 1000000
/-! Gn2: one stretch of a generator's run, from a resume to the next yield or the end: what is wanted of its end is told of the sleeper's own code. -/
namespace Gn
open PySem PySem.Spec PyProof.Rows GenW L2
open Sem (wp)
abbrev EndW := End → Shared → Prop
def SegU (M : Model) (A : Around) (W : EndW) (c : Code) (t : Sem PySem.Fin) (fs : List Frame) (s : Shared) : Prop :=
  ∀ (Γ : PySem.Ctx) (p : Pos), Γ.code = c → Γ.Woken A → ∃ e s', Runs M Γ p t fs s e s' ∧ W e s'
section
variable {prog : Program} {w : World} {A : Around} {W : EndW} {fs : List Frame} {s : Shared} {env : PySem.Env}
/-! ### next of a generator -/
/-- awake or ready to be -/
def Ready (M : Model) (A : Around) (W : EndW) (gs : GenState) (s : Shared) : Prop := match gs with
  | .fresh c => SegU M A W c (M.den c) [] s
  | .suspended kk _ c _ fs _ => SegU M A W c (kk (.send .none)) fs s
  | _ => False
end
end Gn
set_option maxHeartbeats 2000000
/-! Gn3: a generator def's body as a computation that hands out values; it sleeps between them, whatever its consumer does. -/
namespace Gn
open PySem PySem.Spec PyProof.Rows GenW L2 Dn
/-! ### computations -/
inductive Gt where
  | fin (st : List MO) | exc (e : PV) (st : List MO) | stk | yld (v : PV) (st : List MO) (k : List MO → Gt)
/-! ### the frame's context, by the resume -/
structure Gs where
  P : Program
  w : World
  K : PySem.W.Frag
  mg : Str → Option Value
  base : Heap
  N : List Str
  qual : Str
  scope : Scope
  f : Addr
  cd : Value
  A : Around
  outer : List PySem.Env
  n0 : Nat
  pn : List (Addr × Obj)
abbrev Gs.env (Z : Gs) : PySem.Env := envOfC Z.qual Z.scope Z.n0 Z.f Z.cd
def exT (K : PySem.W.Frag) (Hb : Hp) (Wb : Vw) (e : PV) (st' : List MO) : XK := fun cls d H' => ∃ W', Wb.Le W' ∧ Okk K W' st' H' ∧ Grow Wb W' Hb H' ∧ ERep K W' cls d e
/-- what holds where the frame rests -/
structure Land (Z : Gs) (sb : Shared) (Hb H' : Hp) (s : Shared) : Prop where
  os : s.os = sb.os
  bare : AllBare s.gens
  un : Un (frs Z.outer) [] Hb H' sb.heap s.heap
  hok : HOk Z.P Z.w H' s.heap
  pn : ∀ p ∈ Z.pn, s.heap.get? p.1 = some p.2 ∧ H' p.1 = none
/-- what the consumer owes at a resume -/
structure Res (Z : Gs) (pl : List (Addr × Obj)) (s2 sb : Shared) (H2 : Hp) : Prop where
  os : s2.os = sb.os
  bs : ∀ b o, Z.base.get? b = some o → sb.heap.get? b = some o ∧ H2 b = none
  bsz : Z.base.objs.size ≤ sb.heap.objs.size
  funs : sb.heap.FunFrames Z.base Z.outer
  frf : ∀ b ∈ frs Z.outer, H2 b = none
  size : sb.heap.objs.size = Z.n0
  sub : ∀ b o, sb.heap.get? b = some o → s2.heap.get? b = some o
  hok : HOk Z.P Z.w H2 s2.heap
  bare : AllBare s2.gens
  pins : ∀ p ∈ pl, s2.heap.get? p.1 = some p.2 ∧ H2 p.1 = none
/-- objects that stay while the generator sleeps -/
def Kept (Z : Gs) (pl : List (Addr × Obj)) (H' : Hp) (s : Shared) : Prop := ∀ p ∈ pl, s.heap.get? p.1 = some p.2 ∧ H' p.1 = none ∧ Z.n0 ≤ p.1 ∧ ∀ v, p.2.data ≠ .cell v
/-- what is wanted of a stretch -/
def Wish (Z : Gs) : Gt → Shared → Hp → Vw → EndW
  | .fin st', sb, Hb, Wb => fun e s => ∃ f, e = .ret (.ok f) ∧ (f = .ret .none ∨ f = .next) ∧ ∃ W' H', Wb.Le W' ∧ Okk Z.K W' st' H' ∧ Grow Wb W' Hb H' ∧ Land Z sb Hb H' s
  | .exc e st', sb, Hb, Wb => fun en s => ∃ x, en = .ret (.error x) ∧ CX Z.P Z.w Z.outer Hb sb (exT Z.K Hb Wb e st') x s ∧ ∀ p ∈ Z.pn, s.heap.get? p.1 = some p.2
  | .stk, _, _, _ => fun _ _ => False
  | .yld v st' k, sb, Hb, Wb => fun en s => ∃ x g l kk c p fs, en = .susp x g l kk c p fs ∧ en.quiet = true ∧ ∃ W' H' xv pl, RelV xv x ∧ Rep Z.K W' xv v ∧ Wb.Le W' ∧ Okk Z.K W' st' H' ∧ Grow Wb W' Hb H' ∧ Land Z sb Hb H' s ∧ Kept Z pl H' s ∧ (∀ q ∈ Z.pn, q ∈ pl) ∧ Z.n0 ≤ s.heap.objs.size ∧
      ∀ s2 sb2 H2 W2 st2, W'.Le W2 → Okk Z.K W2 st2 H2 → Res Z pl s2 sb2 H2 → k st2 ≠ .stk → SegU (model Z.P Z.w) Z.A (Wish Z (k st2) sb2 H2 W2) c (kk (.send .none)) fs s2
/-! ### from one resume to the next -/
end Gn
set_option maxHeartbeats 2000000
/-! Gn4: if, while, for in a generator def's body. -/
set_option maxHeartbeats 2000000
/-! Gn5: the consumer's side: one turn of a sleeping generator. -/
namespace Gn
open PySem PySem.Spec PyProof.Rows GenW L2 Dn
/-- a sleeper and what it will hand out -/
def GSlp (Z : Gs) (pl : List (Addr × Obj)) (W : Vw) (t : List MO → Gt) (gs : GenState) : Prop := ∀ s2 sb2 H2 W2 st2, W.Le W2 → Okk Z.K W2 st2 H2 → Res Z pl s2 sb2 H2 → t st2 ≠ .stk → Ready (model Z.P Z.w) Z.A (Wish Z (t st2) sb2 H2 W2) gs s2
section
variable {X : Cx} {pins pl : List (Addr × Obj)} {σ : L2.St} {H H' : Hp} {s s1 s2 sb : Shared} {n : Nat}
structure Near (X : Cx) (pins : List (Addr × Obj)) (n : Nat) : Prop where
  s0 : X.s_0.heap.objs.size ≤ n
  L : X.env.locals < n
  C : ∀ x c, X.env.cells.lookup x = some c → c < n
  pin : ∀ p ∈ X.pn ++ pins, p.1 < n
end
end Gn
set_option maxHeartbeats 2000000
/-! Gn6: for over a generator. -/
namespace Gn
open PySem PySem.Spec PyProof.Rows GenW L2 Dn
section
variable {X : Cx} {Y : WX} {pins pl : List (Addr × Obj)} {σ : L2.St} {H : Hp} {s : Shared} {n0 g k : Nat} {a : Addr} {N cs : List Str} {qual : Str} {scope : Scope} {f : Addr} {cd : Value} {pn : List (Addr × Obj)} {W : Vw} {sg : S} {C : Dn.Ctx} {t : List MO → Gt} {gs : GenState}
/-- a sleeping generator, as its consumer holds it -/
structure Held (X : Cx) (pins : List (Addr × Obj)) (Z : Gs) (a : Addr) (g : Nat) (pl : List (Addr × Obj)) (W : Vw) (H : Hp) (s : Shared) (t : List MO → Gt) (gs : GenState) : Prop where
  near : Near X pins Z.n0
  ga : Z.n0 ≤ a
  gen : s.gens[g]? = some gs
  pni : ∀ h : Heap, (∀ p ∈ Z.pn, h.get? p.1 = some p.2) → h.IsGen a g
  pnl : ∀ p ∈ Z.pn, p ∈ pl
  kept : Kept Z pl H s
  slp : GSlp Z pl W t gs
theorem Held.isGen {Z : Gs} (h : Held X pins Z a g pl W H s t gs) : s.heap.IsGen a g := h.pni _ fun p hp => (h.kept p (h.pnl p hp)).1
theorem Held.le {Z : Gs} (h : Held X pins Z a g pl W H s t gs) : Z.n0 ≤ s.heap.objs.size := by
  obtain ⟨o, nm, qn, ho, _⟩ := h.isGen
  exact Nat.le_trans h.ga (Nat.le_of_lt (Heap.lt_size ho))
/-! ### for over a generator -/
end
end Gn
set_option maxHeartbeats 2000000
/-! Gn7: generator defs and their calls. -/
namespace Gn
open PySem PySem.Spec PyProof.Rows GenW L2 Dn
abbrev GFun := Nat → List PV → List MO → Gt
/-- a generator that was just made -/
def GMadeD (P : Program) (w : World) (K : PySem.W.Frag) (mg : Str → Option Value) (base : Heap) (j : Nat) (outer : List PySem.Env) (s : Shared) (W : Vw) (t : List MO → Gt) (u : Value) (s' : Shared) : Prop :=
  ∃ (a : Addr) (g : Nat) (c : Code) (N : List Str) (qual : Str) (scope : Scope) (f : Addr) (cd : Value) (go : Obj) (pl : List (Addr × Obj)), u = .ref a ∧ s.heap.objs.size ≤ a ∧ s'.gens[g]? = some (.fresh c) ∧ s'.os = s.os ∧ AllBare s'.gens ∧ (∀ b o, s.heap.get? b = some o → s'.heap.get? b = some o) ∧
    (∀ h : Heap, h.get? a = some go → h.IsGen a g) ∧ (a, go) ∈ pl ∧ (∀ p ∈ pl, s'.heap.get? p.1 = some p.2 ∧ s.heap.objs.size ≤ p.1 ∧ ∀ v, p.2.data ≠ .cell v) ∧
    ∀ A', Room j A' → A'.frames = some outer → A'.guards = some [] → GSlp ⟨P, w, K, mg, base, N, qual, scope, f, cd, A', outer, s.heap.objs.size, [(a, go)]⟩ pl W t (.fresh c)
structure GFnD (P : Program) (w : World) (K : PySem.W.Frag) (mg : Str → Option Value) (base : Heap) (j : Nat) (f : Addr) (fd : FuncData) (ps : List Str) (m : GFun) : Prop where
  run : ∀ (A : Around) (outer : List PySem.Env) (s : Shared) (H : Hp) (args : Args) (us : List Value) (vs : List V) (ds : List PV) (W : Vw) (n : Nat), Room (j + 1) A → Env0 P w K mg base A outer s H → BindsTo s fd args (ps.zip us) → Vals vs us → Reps K W vs ds → ds.length = ps.length →
    codeAny (model P w) A (.call (.ref f) args) (fun r s' => match r with | .ok (.ret u) => GMadeD P w K mg base j outer s W (m n ds) u s' | _ => False) s
theorem GFnD.mono {P : Program} {w : World} {K : PySem.W.Frag} {mg : Str → Option Value} {base : Heap} {i j : Nat} {f : Addr} {fd : FuncData} {ps : List Str} {m : GFun} (F : GFnD P w K mg base i f fd ps m) (h : i ≤ j) : GFnD P w K mg base j f fd ps m :=
  ⟨fun A outer s H args us vs ds W n hr e0 hb r rv hl => codeAny_mono (F.run A outer s H args us vs ds W n (hr.mono (by omega)) e0 hb r rv hl) fun r s' h' => by
    match r, h' with
    | .error e, h' => exact h'
    | .ok .next, h' => exact h'
    | .ok .brk, h' => exact h'
    | .ok .cont, h' => exact h'
    | .ok (.ret u), ⟨a, g, c, N, qual, scope, f, cd, go, pl, h1, h2, h3, h4, h5, h6, h7, h8, h9, h10⟩ => exact ⟨a, g, c, N, qual, scope, f, cd, go, pl, h1, h2, h3, h4, h5, h6, h7, h8, h9, fun A' hr' => h10 A' (hr'.mono h)⟩⟩
end Gn
set_option maxHeartbeats 2000000
/-! Gn8: generators made by calls. -/
set_option maxHeartbeats 2000000
/-! Gn9: rows of generator defs; the rules in short. -/
set_option maxHeartbeats 2000000
/-! Gn10: an exception kept out of a try whose body walks a generator: the way out does not look at who sleeps. -/
/-! Eq1: == of tuples whose items have an own ==: the loop, whatever it answers. -/
namespace Dn
open PySem L2 ClX StX PySem.Spec PyProof.Rows PySem.Calls
end Dn
/-! Eq2: == of tuples of own instances, as a computation. -/
namespace Dn
open PySem L2 ClX StX PySem.Spec PyProof.Rows PySem.Calls
end Dn
/-! So20: sorted(list of integers). -/
namespace Dn
open PySem L2 ClX StX PySem.Spec PyProof.Rows PySem.Calls
end Dn
/-! Pl: plain reasoning about computations: what an answer is like. -/
namespace Dn
open PySem
section
variable {α β : Type} {s : S} {env : Env} {st : List MO} {Q : α → S → Prop} {QB : β → S → Prop} {c : M α} {i j k : Nat} {ca cb cd : M PV} {fa fb : M Fl} {E : PV → S → Prop} {EF : PV → List MO → Prop}
/-- c answers, and Q holds of the answer and the state behind it; or an exception comes, and E holds of it -/
def Okx (E : PV → S → Prop) (c : M α) (s : S) (Q : α → S → Prop) : Prop := match c s with
  | .ok a s' => Q a s'
  | .exc e s' => E e s'
  | .stk => False
/-- c answers -/
abbrev Ok (c : M α) (s : S) (Q : α → S → Prop) : Prop := Okx (fun _ _ => False) c s Q
theorem Okx.two (h : Okx E c s Q) : (∃ a s', c s = .ok a s' ∧ Q a s') ∨ ∃ e s', c s = .exc e s' ∧ E e s' := by
  unfold Okx at h
  cases e : c s with
  | ok a s' => rw [e] at h; exact .inl ⟨a, s', rfl, h⟩
  | exc e' s' => rw [e] at h; exact .inr ⟨e', s', rfl, h⟩
  | stk => rw [e] at h; exact h.elim
theorem Okx.ofx {e : PV} {s' : S} (z : c s = .exc e s') (h : E e s') : Okx E c s Q := by unfold Okx; rw [z]; exact h
theorem Okx.ex (h : Ok c s Q) : ∃ a s', c s = .ok a s' ∧ Q a s' := by
  rcases h.two with h | ⟨_, _, _, h⟩
  · exact h
  · exact h.elim
theorem Okx.of {a : α} {s' : S} (e : c s = .ok a s') (h : Q a s') : Okx E c s Q := by unfold Okx; rw [e]; exact h
theorem Okx.imp {Q' : α → S → Prop} (h : Okx E c s Q) (f : ∀ a s', Q a s' → Q' a s') : Okx E c s Q' := by
  rcases h.two with ⟨a, s', e, q⟩ | ⟨e, s', z, q⟩
  · exact Okx.of e (f a s' q)
  · exact Okx.ofx z q
theorem Okx.impx {E' : PV → S → Prop} {Q' : α → S → Prop} (h : Okx E c s Q) (f : ∀ a s', Q a s' → Q' a s') (g : ∀ e s', E e s' → E' e s') : Okx E' c s Q' := by
  rcases h.two with ⟨a, s', e, q⟩ | ⟨e, s', z, q⟩
  · exact Okx.of e (f a s' q)
  · exact Okx.ofx z (g e s' q)
theorem Ok.up (h : Ok c s Q) : Okx E c s Q := h.impx (fun _ _ q => q) fun _ _ q => q.elim
theorem ok_ret {a : α} : Okx E (ret a) s Q ↔ Q a s := Iff.rfl
theorem ok_bnd {f : α → M β} : Okx E (bnd c f) s QB ↔ Okx E c s (fun a s' => Okx E (f a) s' QB) := by
  unfold Okx bnd
  cases c s <;> exact Iff.rfl
theorem ok_lft {o : Option α} : Okx E (lft o) s Q ↔ ∃ a, o = some a ∧ Q a s := by
  unfold Okx lft
  cases o with
  | none => exact ⟨fun h => h.elim, fun ⟨_, h, _⟩ => nomatch h⟩
  | some a => exact ⟨fun h => ⟨a, rfl, h⟩, fun ⟨_, h, q⟩ => by cases h; exact q⟩
theorem ok_ite {p : Prop} [Decidable p] {c d : M α} : Okx E (if p then c else d) s Q ↔ if p then Okx E c s Q else Okx E d s Q := by
  split <;> exact Iff.rfl
def varK (i : Nat) (env : Env) (st : List MO) (Q : PV → S → Prop) : Option (Option SV) → Prop
  | some (some (.val d)) => Q d ⟨env, st⟩
  | some (some (.own xs)) => Q (.lst xs) ⟨env.set i (some (.val (.lst xs))), st⟩
  | _ => False
theorem ok_var {Q : PV → S → Prop} : Okx E (var i) ⟨env, st⟩ Q ↔ varK i env st Q env[i]? := by
  unfold Okx var varK
  dsimp only
  rcases env[i]? with _ | _ | sv
  · exact Iff.rfl
  · exact Iff.rfl
  · cases sv <;> exact Iff.rfl
theorem varK_val {Q : PV → S → Prop} {d : PV} : varK i env st Q (some (some (.val d))) ↔ Q d ⟨env, st⟩ := Iff.rfl
theorem varK_own {Q : PV → S → Prop} {xs : List PV} : varK i env st Q (some (some (.own xs))) ↔ Q (.lst xs) ⟨env.set i (some (.val (.lst xs))), st⟩ := Iff.rfl
theorem pv_val {d : PV} : (SV.val d).pv = d := rfl
theorem pv_own {xs : List PV} : (SV.own xs).pv = .lst xs := rfl
theorem ok_bin {op : PV → PV → M PV} {Q : PV → S → Prop} : Okx E (bin ca cb op) s Q ↔ Okx E ca s (fun a s' => Okx E cb s' (fun b s2 => Okx E (op a b) s2 Q)) := by
  unfold bin
  rw [ok_bnd]
  exact ⟨fun h => h.imp fun a s' q => ok_bnd.mp q, fun h => h.imp fun a s' q => ok_bnd.mpr q⟩
def asBK (s : S) (Q : Bool → S → Prop) : PV → Prop
  | .bl b => Q b s
  | _ => False
theorem ok_asB {Q : Bool → S → Prop} : Okx E (asB ca) s Q ↔ Okx E ca s (fun d s' => asBK s' Q d) := by
  unfold asB
  rw [ok_bnd]
  refine ⟨fun h => h.imp fun a s' q => ?_, fun h => h.imp fun a s' q => ?_⟩ <;> cases a <;> exact q
theorem asBK_bl {Q : Bool → S → Prop} {b : Bool} : asBK s Q (.bl b) ↔ Q b s := Iff.rfl
theorem ok_andT {a b : M Bool} {Q : Bool → S → Prop} : Okx E (andT a b) s Q ↔ Okx E a s (fun x s' => if x = true then Okx E b s' Q else Q false s') := by
  unfold andT
  rw [ok_bnd]
  refine ⟨fun h => h.imp fun a s' q => ?_, fun h => h.imp fun a s' q => ?_⟩ <;> cases a <;> exact q
theorem ok_orT {a b : M Bool} {Q : Bool → S → Prop} : Okx E (orT a b) s Q ↔ Okx E a s (fun x s' => if x = true then Q true s' else Okx E b s' Q) := by
  unfold orT
  rw [ok_bnd]
  refine ⟨fun h => h.imp fun a s' q => ?_, fun h => h.imp fun a s' q => ?_⟩ <;> cases a <;> exact q
theorem ok_notT {a : M Bool} {Q : Bool → S → Prop} : Okx E (notT a) s Q ↔ Okx E a s (fun x s' => Q (!x) s') := by
  unfold notT
  rw [ok_bnd]
  exact Iff.rfl
theorem ok_iteT {t : M Bool} {Q : PV → S → Prop} : Okx E (iteT t ca cb) s Q ↔ Okx E t s (fun x s' => if x = true then Okx E ca s' Q else Okx E cb s' Q) := by
  unfold iteT
  rw [ok_bnd]
  refine ⟨fun h => h.imp fun a s' q => ?_, fun h => h.imp fun a s' q => ?_⟩ <;> cases a <;> exact q
def blK (s : S) (Q : Bool → Prop) : PV → Prop
  | .bl b => Q b
  | _ => False
theorem blK_bl {Q : Bool → Prop} {b : Bool} : blK s Q (.bl b) ↔ Q b := Iff.rfl
theorem ok_andV {Q : PV → S → Prop} : Okx E (andV ca cb) s Q ↔ Okx E ca s (fun d s' => blK s' (fun x => if x = true then Okx E cb s' Q else Q (.bl false) s') d) := by
  unfold andV
  rw [ok_bnd]
  refine ⟨fun h => h.imp fun a s' q => ?_, fun h => h.imp fun a s' q => ?_⟩ <;> cases a <;> first | exact q | (rename_i b; cases b <;> exact q)
theorem ok_notV {Q : PV → S → Prop} : Okx E (notV ca) s Q ↔ Okx E ca s (fun d s' => blK s' (fun x => Q (.bl (!x)) s') d) := by
  unfold notV
  rw [ok_bnd]
  refine ⟨fun h => h.imp fun a s' q => ?_, fun h => h.imp fun a s' q => ?_⟩ <;> cases a <;> exact q
/-! ### arguments, displays -/
theorem ok_argN {Q : List PV → S → Prop} : Okx E argN s Q ↔ Q [] s := Iff.rfl
theorem ok_argC {r : M (List PV)} {Q : List PV → S → Prop} : Okx E (argC ca r) s Q ↔ Okx E ca s (fun d s' => Okx E r s' (fun ds s2 => Q (d :: ds) s2)) := by
  unfold argC
  rw [ok_bnd]
  exact ⟨fun h => h.imp fun a s' q => ok_bnd.mp q, fun h => h.imp fun a s' q => ok_bnd.mpr q⟩
theorem ok_fits {r : M (List PV)} {Q : List PV → S → Prop} : Okx E (fits r) s Q ↔ Okx E r s (fun ds s' => ds.length ≤ sizeLine ∧ Q ds s') := by
  unfold fits
  rw [ok_bnd]
  refine ⟨fun h => h.imp fun a s' q => ?_, fun h => h.imp fun a s' q => ?_⟩
  · rw [ok_ite] at q
    split at q
    · exact ⟨by assumption, q⟩
    · exact q.elim
  · rw [ok_ite, if_pos q.1]
    exact q.2
theorem ok_tupM {r : M (List PV)} {Q : PV → S → Prop} : Okx E (tupM r) s Q ↔ Okx E r s (fun ds s' => ds.length ≤ sizeLine ∧ Q (.tup ds) s') := by
  unfold tupM
  rw [ok_bnd, ok_fits]
  exact Iff.rfl
theorem ok_lstM {r : M (List PV)} {Q : PV → S → Prop} : Okx E (lstM r) s Q ↔ Okx E r s (fun ds s' => Q (.lst ds) s') := by
  unfold lstM
  rw [ok_bnd]
  exact Iff.rfl
theorem ok_parN {Q : Option Int → S → Prop} : Okx E parN s Q ↔ Q none s := Iff.rfl
def intK (s : S) (Q : Int → Prop) : PV → Prop
  | .int b => Q b
  | _ => False
theorem intK_int {Q : Int → Prop} {b : Int} : intK s Q (.int b) ↔ Q b := Iff.rfl
theorem ok_parS {Q : Option Int → S → Prop} : Okx E (parS ca) s Q ↔ Okx E ca s (fun d s' => intK s' (fun i => Q (some i) s') d) := by
  unfold parS
  rw [ok_bnd]
  refine ⟨fun h => h.imp fun a s' q => ?_, fun h => h.imp fun a s' q => ?_⟩ <;> cases a <;> exact q
theorem ok_slM {lo hi : M (Option Int)} {Q : PV → S → Prop} : Okx E (slM ca lo hi) s Q ↔ Okx E ca s (fun d s1 => Okx E lo s1 (fun a s2 => Okx E hi s2 (fun b s3 => ∃ x, slP d a b = some x ∧ Q x s3))) := by
  unfold slM
  rw [ok_bnd]
  exact ⟨fun h => h.imp fun a s' q => (ok_bnd.mp q).imp fun b s2 q => (ok_bnd.mp q).imp fun c s3 q => ok_lft.mp q, fun h => h.imp fun a s' q => ok_bnd.mpr (q.imp fun b s2 q => ok_bnd.mpr (q.imp fun c s3 q => ok_lft.mpr q))⟩
def lstK (Q : List PV → Prop) : PV → Prop
  | .lst b => Q b
  | _ => False
theorem lstK_lst {Q : List PV → Prop} {b : List PV} : lstK Q (.lst b) ↔ Q b := Iff.rfl
def strK (Q : Str → Prop) : PV → Prop
  | .str b => Q b
  | _ => False
theorem strK_str {Q : Str → Prop} {b : Str} : strK Q (.str b) ↔ Q b := Iff.rfl
theorem ok_joinM {Q : PV → S → Prop} : Okx E (joinM ca cb) s Q ↔ Okx E ca s (fun d s' => strK (fun x => Okx E cb s' (fun b s2 => ∃ y, joinP x b = some y ∧ Q y s2)) d) := by
  unfold joinM
  rw [ok_bnd]
  refine ⟨fun h => h.imp fun a s' q => ?_, fun h => h.imp fun a s' q => ?_⟩
  · cases a <;> first | exact q | exact (ok_bnd.mp q).imp fun b s2 q => ok_lft.mp q
  · cases a <;> first | exact q | exact ok_bnd.mpr (Okx.imp q fun b s2 q => ok_lft.mpr q)
theorem ok_itemsM {Q : List PV → S → Prop} : Okx E (itemsM ca) s Q ↔ Okx E ca s (fun d s' => ∃ xs, itemsP d = some xs ∧ Q xs s') := by
  unfold itemsM
  rw [ok_bnd]
  exact ⟨fun h => h.imp fun a s' q => ok_lft.mp q, fun h => h.imp fun a s' q => ok_lft.mpr q⟩
theorem ok_rngM {Q : List PV → S → Prop} : Okx E (rngM ca) s Q ↔ Okx E ca s (fun d s' => ∃ xs, rngP d = some xs ∧ Q xs s') := by
  unfold rngM
  rw [ok_bnd]
  exact ⟨fun h => h.imp fun a s' q => ok_lft.mp q, fun h => h.imp fun a s' q => ok_lft.mpr q⟩
/-! ### statements -/
def seqK (E : PV → S → Prop) (b : M Fl) (s : S) (Q : Fl → S → Prop) : Fl → Prop
  | .nx => Okx E b s Q
  | fl => Q fl s
theorem ok_seqM {Q : Fl → S → Prop} : Okx E (seqM fa fb) s Q ↔ Okx E fa s (fun fl s' => seqK E fb s' Q fl) := by
  unfold Okx seqM
  cases fa s with
  | ok fl s' => cases fl <;> exact Iff.rfl
  | exc => exact Iff.rfl
  | stk => exact Iff.rfl
theorem seqK_nx {Q : Fl → S → Prop} : seqK E fb s Q .nx ↔ Okx E fb s Q := Iff.rfl
theorem seqK_ro {Q : Fl → S → Prop} {d : List PV} : seqK E fb s Q (.ro d) ↔ Q (.ro d) s := Iff.rfl
theorem seqK_rt {Q : Fl → S → Prop} {d : PV} : seqK E fb s Q (.rt d) ↔ Q (.rt d) s := Iff.rfl
theorem seqK_bk {Q : Fl → S → Prop} : seqK E fb s Q .bk ↔ Q .bk s := Iff.rfl
theorem seqK_ct {Q : Fl → S → Prop} : seqK E fb s Q .ct ↔ Q .ct s := Iff.rfl
theorem ok_ifM {t : M Bool} {Q : Fl → S → Prop} : Okx E (ifM t fa fb) s Q ↔ Okx E t s (fun x s' => if x = true then Okx E fa s' Q else Okx E fb s' Q) := by
  unfold ifM
  rw [ok_bnd]
  refine ⟨fun h => h.imp fun a s' q => ?_, fun h => h.imp fun a s' q => ?_⟩ <;> cases a <;> exact q
theorem ok_retM {Q : Fl → S → Prop} : Okx E (retM ca) s Q ↔ Okx E ca s (fun d s' => Q (.rt d) s') := by unfold retM; rw [ok_bnd]; exact Iff.rfl
theorem ok_dropM {Q : Fl → S → Prop} : Okx E (dropM ca) s Q ↔ Okx E ca s (fun _ s' => Q .nx s') := by unfold dropM; rw [ok_bnd]; exact Iff.rfl
theorem ok_skipM {Q : Fl → S → Prop} : Okx E skipM s Q ↔ Q .nx s := Iff.rfl
theorem ok_asgM {Q : Fl → S → Prop} : Okx E (asgM i ca) s Q ↔ Okx E ca s (fun d s' => Q .nx ⟨s'.env.set i (some (.val d)), s'.sto⟩) := by unfold asgM; rw [ok_bnd]; exact Iff.rfl
theorem ok_par2VO {r : M (List PV)} {Q : Fl → S → Prop} : Okx E (par2VO i j ca r) s Q ↔ Okx E ca s (fun a s1 => Okx E r s1 (fun b s2 => Q .nx ⟨(s2.env.set i (some (.val a))).set j (some (.own b)), s2.sto⟩)) := by
  unfold par2VO
  rw [ok_bnd]
  exact ⟨fun h => h.imp fun a s' q => ok_bnd.mp q, fun h => h.imp fun a s' q => ok_bnd.mpr q⟩
theorem ok_par3 {Q : Fl → S → Prop} : Okx E (par3 i j k ca cb cd) s Q ↔ Okx E ca s (fun a s1 => Okx E cb s1 (fun b s2 => Okx E cd s2 (fun d s3 => Q .nx ⟨((s3.env.set i (some (.val a))).set j (some (.val b))).set k (some (.val d)), s3.sto⟩))) := by
  unfold par3
  rw [ok_bnd]
  exact ⟨fun h => h.imp fun a s' q => (ok_bnd.mp q).imp fun b s2 q => ok_bnd.mp q, fun h => h.imp fun a s' q => ok_bnd.mpr (q.imp fun b s2 q => ok_bnd.mpr q)⟩
/-! ### calls, functions -/
def OkFx (E : PV → List MO → Prop) (r : RR) (Q : PV → List MO → Prop) : Prop := match r with
  | .ok d st => Q d st
  | .exc e st => E e st
  | .stk => False
abbrev OkF (r : RR) (Q : PV → List MO → Prop) : Prop := OkFx (fun _ _ => False) r Q
theorem OkFx.ex {r : RR} {Q : PV → List MO → Prop} (h : OkF r Q) : ∃ d st, r = .ok d st ∧ Q d st := by
  cases r with
  | ok d st => exact ⟨d, st, rfl, h⟩
  | exc => exact h.elim
  | stk => exact h.elim
theorem OkFx.imp {r : RR} {Q Q' : PV → List MO → Prop} (h : OkFx EF r Q) (f : ∀ d st, Q d st → Q' d st) : OkFx EF r Q' := by
  cases r with
  | ok d st => exact f d st h
  | exc => exact h
  | stk => exact h
theorem OkFx.impx {r : RR} {E' Q Q' : PV → List MO → Prop} (h : OkFx EF r Q) (f : ∀ d st, Q d st → Q' d st) (g : ∀ e st, EF e st → E' e st) : OkFx E' r Q' := by
  cases r with
  | ok d st => exact f d st h
  | exc e st => exact g e st h
  | stk => exact h
theorem OkF.up {r : RR} {Q : PV → List MO → Prop} (h : OkF r Q) : OkFx EF r Q := h.impx (fun _ _ q => q) fun _ _ q => q.elim
theorem ok_callM {m : Fn} {n : Nat} {r : M (List PV)} {Q : PV → S → Prop} : Okx E (callM m n r) s Q ↔ Okx E r s (fun ds s' => OkFx (fun e st => E e ⟨s'.env, st⟩) (m n ds s'.sto) (fun d st => Q d ⟨s'.env, st⟩)) := by
  unfold callM
  rw [ok_bnd]
  have key : ∀ (ds : List PV) (s' : S), Okx E (fun s : S => match m n ds s.sto with
      | .ok d st' => Res.ok d { s with sto := st' }
      | .exc e st' => .exc e { s with sto := st' }
      | .stk => .stk) s' Q ↔ OkFx (fun e st => E e ⟨s'.env, st⟩) (m n ds s'.sto) (fun d st => Q d ⟨s'.env, st⟩) := fun ds s' => by
    unfold Okx OkFx
    dsimp only
    cases m n ds s'.sto <;> exact Iff.rfl
  exact ⟨fun h => h.imp fun ds s' q => (key ds s').mp q, fun h => h.imp fun ds s' q => (key ds s').mpr q⟩
def rtK (Q : PV → List MO → Prop) (s : S) : Fl → Prop
  | .rt d => Q d s.sto
  | .ro xs => Q (.lst xs) s.sto
  | .nx => Q .non s.sto
  | _ => False
theorem rtK_rt {Q : PV → List MO → Prop} {d : PV} : rtK Q s (.rt d) ↔ Q d s.sto := Iff.rfl
theorem rtK_ro {Q : PV → List MO → Prop} {xs : List PV} : rtK Q s (.ro xs) ↔ Q (.lst xs) s.sto := Iff.rfl
theorem rtK_nx {Q : PV → List MO → Prop} : rtK Q s .nx ↔ Q .non s.sto := Iff.rfl
theorem okF_fn {np nn n : Nat} {body : Nat → M Fl} {ds : List PV} {st : List MO} {Q : PV → List MO → Prop} (hl : ds.length = np)
    (h : Okx (fun e s => EF e s.sto) (body n) ⟨ds.map (fun d => some (SV.val d)) ++ List.replicate (nn - np) none, st⟩ (fun fl s => rtK Q s fl)) : OkFx EF (fnM np nn body n ds st) Q := by
  unfold fnM
  rw [if_pos hl]
  rcases h.two with ⟨fl, s', e, q⟩ | ⟨e, s', z, q⟩
  · rw [e]
    cases fl <;> exact q
  · rw [z]
    exact q
/-! ### handles -/
def getK (s : S) (Q : PV → S → Prop) : Option PV → Prop
  | some d => Q d s
  | none => False
theorem getK_some {Q : PV → S → Prop} {d : PV} : getK s Q (some d) ↔ Q d s := Iff.rfl
theorem ok_hget0 {key : Str} {kvs : List (L2.Key × PV)} {Q : PV → S → Prop} : Okx E (hgetP (.hnd 0) (.str key)) ⟨env, .dic kvs :: st⟩ Q ↔ getK ⟨env, .dic kvs :: st⟩ Q (valP kvs (.inr key)) := by
  unfold Okx hgetP getK
  simp only [List.getElem?_cons_zero]
  cases valP kvs (.inr key) <;> exact Iff.rfl
def putK (v : PV) (Q : Fl → S → Prop) (s : S) (a b : PV) : Prop := match a, b with
  | .hnd n, .str k => match s.sto[n]? with
    | some (.dic kvs) => kvs.length < sizeLine ∧ Q .nx ⟨s.env, s.sto.set n (.dic (putP kvs (.inr k) v))⟩
    | _ => False
  | _, _ => False
theorem ok_hputM {cd ck cv : M PV} {Q : Fl → S → Prop} : Okx E (hputM cd ck cv) s Q ↔ Okx E cv s (fun v s1 => Okx E cd s1 (fun a s2 => Okx E ck s2 (fun b s3 => putK v Q s3 a b))) := by
  unfold hputM
  rw [ok_bnd]
  have key : ∀ (v a b : PV) (s : S), Okx E (fun s : S => match a, b with
      | .hnd n, .str k => match s.sto[n]? with
        | some (.dic kvs) => if kvs.length < sizeLine then Res.ok Fl.nx { s with sto := s.sto.set n (.dic (putP kvs (.inr k) v)) } else .stk
        | _ => .stk
      | _, _ => .stk) s Q ↔ putK v Q s a b := fun v a b s => by
    unfold Okx putK
    dsimp only
    cases a <;> cases b <;> try exact Iff.rfl
    rename_i n x
    dsimp only
    cases s.sto[n]? with
    | none => exact Iff.rfl
    | some mo =>
      cases mo with
      | dic kvs =>
        dsimp only
        by_cases h : kvs.length < sizeLine
        · simp [h]
        · simp [h]
      | ins => exact Iff.rfl
      | own => exact Iff.rfl
      | dtt => exact Iff.rfl
      | gone => exact Iff.rfl
  exact ⟨fun h => h.imp fun v s1 q => (ok_bnd.mp q).imp fun a s2 q => (ok_bnd.mp q).imp fun b s3 q => (key v a b s3).mp q,
    fun h => h.imp fun v s1 q => ok_bnd.mpr (q.imp fun a s2 q => ok_bnd.mpr (q.imp fun b s3 q => (key v a b s3).mpr q))⟩
theorem putK0 {key : Str} {v : PV} {kvs : List (L2.Key × PV)} {Q : Fl → S → Prop} : putK v Q ⟨env, .dic kvs :: st⟩ (.hnd 0) (.str key) ↔ kvs.length < sizeLine ∧ Q .nx ⟨env, .dic (putP kvs (.inr key) v) :: st⟩ := Iff.rfl
/-! ### loops -/
def flK (Q : Fl → S → Prop) (N : S → Prop) (s : S) : Fl → Prop
  | .nx => N s
  | .ct => N s
  | .bk => Q .nx s
  | .rt d => Q (.rt d) s
  | .ro d => Q (.ro d) s
theorem ok_for {body : M Fl} {xs : List PV} {Q : Fl → S → Prop} (I : Nat → S → Prop) (h0 : I 0 s) (hs : ∀ (k : Nat) (x : PV) (s : S), xs[k]? = some x → I k s → Okx E body ⟨s.env.set i (some (.val x)), s.sto⟩ (fun fl s' => flK Q (I (k + 1)) s' fl)) (hd : ∀ s, I xs.length s → Q .nx s) : Okx E (forM i body xs) s Q := by
  have key : ∀ (ys : List PV) (k : Nat) (s : S), xs.drop k = ys → k + ys.length = xs.length → I k s → Okx E (forM i body ys) s Q := by
    intro ys
    induction ys with
    | nil =>
      intro k s e hl hI
      have hk : k = xs.length := by simpa using hl
      subst hk
      exact hd s hI
    | cons y ys ih =>
      intro k s e hl hI
      have hk : k < xs.length := by simp at hl; omega
      have e' := List.drop_eq_getElem_cons hk
      rw [e] at e'
      obtain ⟨e1, e2⟩ := List.cons.inj e'
      have hg : xs[k]? = some y := by rw [e1]; exact List.getElem?_eq_getElem hk
      have hb := hs k y s hg hI
      rcases hb.two with ⟨fl, s', eb, q⟩ | ⟨z, s', eb, q⟩
      case' inr =>
        have eb : body { s with env := s.env.set i (some (.val y)) } = .exc z s' := eb
        unfold Okx forM
        simp only [eb]
        exact q
      unfold Okx forM
      have eb : body { s with env := s.env.set i (some (.val y)) } = .ok fl s' := eb
      cases fl with
      | nx => simp only [eb]; exact ih (k + 1) s' e2.symm (by simp at hl; omega) q
      | ct => simp only [eb]; exact ih (k + 1) s' e2.symm (by simp at hl; omega) q
      | bk => simp only [eb]; exact q
      | rt d => simp only [eb]; exact q
      | ro d => simp only [eb]; exact q
  exact key xs 0 s rfl (by simp) h0
theorem ok_loopM {r : M (List PV)} {Q : Fl → S → Prop} : Okx E (loopM r i fa) s Q ↔ Okx E r s (fun xs s' => Okx E (forM i fa xs) s' Q) := by unfold loopM; exact ok_bnd
/-! ### comprehensions -/
theorem ok_lcM {r : M (List PV)} {vs : List Nat} {cond : M Bool} {Q : List PV → S → Prop} : Okx E (lcM r i vs cond ca) s Q ↔ Okx E r s (fun xs s' => Okx E (lcGo i vs cond ca xs []) ⟨wip s'.env vs, s'.sto⟩ Q) := by unfold lcM; exact ok_bnd
/-- by an invariant over the turn, what is made, the state -/
theorem ok_lcGo {vs : List Nat} {cond : M Bool} {elt : M PV} {xs : List PV} {Q : List PV → S → Prop} (I : Nat → List PV → S → Prop) (h0 : I 0 [] s)
    (hs : ∀ (k : Nat) (x : PV) (acc : List PV) (s : S), xs[k]? = some x → I k acc s → Ok cond ⟨s.env.set i (some (.val x)), s.sto⟩ (fun b s1 => if b = true then Ok elt s1 (fun y s2 => acc.length < sizeLine ∧ I (k + 1) (acc ++ [y]) ⟨wip s2.env vs, s2.sto⟩) else I (k + 1) acc ⟨wip s1.env vs, s1.sto⟩))
    (hd : ∀ acc s, I xs.length acc s → Q acc s) : Okx E (lcGo i vs cond elt xs []) s Q := by
  have key : ∀ (ys : List PV) (k : Nat) (acc : List PV) (s : S), xs.drop k = ys → k + ys.length = xs.length → I k acc s → Okx E (lcGo i vs cond elt ys acc) s Q := by
    intro ys
    induction ys with
    | nil =>
      intro k acc s e hl hI
      have hk : k = xs.length := by simpa using hl
      subst hk
      exact hd acc s hI
    | cons y ys ih =>
      intro k acc s e hl hI
      have hk : k < xs.length := by simp at hl; omega
      have e' := List.drop_eq_getElem_cons hk
      rw [e] at e'
      obtain ⟨e1, e2⟩ := List.cons.inj e'
      have hg : xs[k]? = some y := by rw [e1]; exact List.getElem?_eq_getElem hk
      obtain ⟨b, s1, ec, q⟩ := (hs k y acc s hg hI).ex
      have ec : cond { s with env := s.env.set i (some (.val y)) } = .ok b s1 := ec
      unfold Okx lcGo
      cases b with
      | false =>
        simp only [ec]
        exact ih (k + 1) acc _ e2.symm (by simp at hl; omega) q
      | true =>
        simp only [if_true] at q
        obtain ⟨z, s2, ee, q1, q2⟩ := Okx.ex q
        simp only [ec, ee, q1, if_true]
        exact ih (k + 1) (acc ++ [z]) _ e2.symm (by simp at hl; omega) q2
  exact key xs 0 [] s rfl (by simp) h0
end
end Dn
/-! Pl2: the operators' answers, a pen. -/
namespace Dn
open PySem
section
variable {s : S} {Q : PV → S → Prop} {QL : List PV → S → Prop} {a b : Int} {x y : Str} {xs ys : List PV} {E : PV → S → Prop}
theorem cmul_of (ha : a.natAbs < 2 ^ 200) (hb : b.natAbs < 2 ^ 200) : L2.CMulW a b := L2.wide_mul ha hb (by decide) (by decide) (by decide)
theorem cmul100 (ha : -1267650600228229401496703205376 ≤ a ∧ a ≤ 1267650600228229401496703205376) (hb : -1267650600228229401496703205376 ≤ b ∧ b ≤ 1267650600228229401496703205376) : L2.CMulW a b :=
  cmul_of (Nat.lt_of_le_of_lt (show a.natAbs ≤ 1267650600228229401496703205376 by omega) (by decide)) (Nat.lt_of_le_of_lt (show b.natAbs ≤ 1267650600228229401496703205376 by omega) (by decide))
theorem log_lt {n p : Nat} (h : n < 2 ^ p) (hp : 0 < p) : n.log2 < p := by
  by_cases h0 : n = 0
  · subst h0
    simpa using hp
  · exact (Nat.log2_lt h0).mpr h
theorem cdiv100 (h0 : 0 < b) (hb : b ≤ 1267650600228229401496703205376) : L2.CDivW a b := ⟨h0, Nat.lt_of_lt_of_le (log_lt (p := 200) (Nat.lt_of_le_of_lt (show b.natAbs ≤ 1267650600228229401496703205376 by omega) (by decide)) (by decide)) (by decide)⟩
theorem opt_if {c : Prop} [Decidable c] {d : PV} {R : PV → Prop} : (∃ a, (if c then some d else none) = some a ∧ R a) ↔ c ∧ R d := by
  by_cases h : c
  · simp only [if_pos h, h, true_and]; simp
  · simp only [if_neg h, h, false_and]; simp
theorem ok_add : Okx E (lft (addP (.int a) (.int b))) s Q ↔ Q (.int (a + b)) s := Iff.rfl
theorem ok_addS : Okx E (lft (addP (.str x) (.str y))) s Q ↔ x.length + y.length ≤ sizeLine ∧ Q (.str (x ++ y)) s := by
  exact ok_lft.trans opt_if
theorem ok_addT : Okx E (lft (addP (.tup xs) (.tup ys))) s Q ↔ xs.length + ys.length ≤ sizeLine ∧ Q (.tup (xs ++ ys)) s := by
  exact ok_lft.trans opt_if
theorem ok_addL : Okx E (lft (addP (.lst xs) (.lst ys))) s Q ↔ xs.length + ys.length ≤ sizeLine ∧ Q (.lst (xs ++ ys)) s := by
  exact ok_lft.trans opt_if
theorem ok_sub : Okx E (lft (subP (.int a) (.int b))) s Q ↔ Q (.int (a - b)) s := Iff.rfl
theorem ok_mul : Okx E (lft (mulP (.int a) (.int b))) s Q ↔ L2.CMulW a b ∧ Q (.int (a * b)) s := by
  exact ok_lft.trans opt_if
theorem ok_div : Okx E (lft (fdivP (.int a) (.int b))) s Q ↔ L2.CDivW a b ∧ Q (.int (a / b)) s := by
  exact ok_lft.trans opt_if
theorem ok_mod : Okx E (lft (modP (.int a) (.int b))) s Q ↔ 0 < b ∧ Q (.int (a % b)) s := by
  exact ok_lft.trans opt_if
theorem ok_pow : Okx E (lft (powP (.int a) (.int b))) s Q ↔ L2.CPow a b ∧ Q (.int (a ^ b.toNat)) s := by
  exact ok_lft.trans opt_if
theorem ok_rep {k : Int} : Okx E (lft (mulP (.lst xs) (.int k))) s Q ↔ ((-(2 ^ 63) ≤ k ∧ k < 2 ^ 63) ∧ xs.length * k.toNat ≤ sizeLine) ∧ Q (.lst (List.replicate k.toNat xs).flatten) s := by
  exact ok_lft.trans opt_if
theorem ok_ord {f : Int → Int → Bool} : Okx E (lft (ordP f (.int a) (.int b))) s Q ↔ Q (.bl (f a b)) s := Iff.rfl
theorem ok_fInt : Okx E (lft (intP (.int a))) s Q ↔ Q (.int a) s := Iff.rfl
theorem ok_fAbs : Okx E (lft (absP (.int a))) s Q ↔ Q (.int (if a < 0 then -a else a)) s := Iff.rfl
theorem ok_fNeg : Okx E (lft (negP (.int a))) s Q ↔ Q (.int (-a)) s := Iff.rfl
theorem ok_lenL : Okx E (lft (lenP (.lst xs))) s Q ↔ Q (.int xs.length) s := Iff.rfl
theorem ok_lenT : Okx E (lft (lenP (.tup xs))) s Q ↔ Q (.int xs.length) s := Iff.rfl
theorem ok_lenS : Okx E (lft (lenP (.str x))) s Q ↔ x.length ≤ sizeLine ∧ Q (.int x.length) s := by
  exact ok_lft.trans opt_if
theorem ok_fListL : Okx E (lft (listP (.lst xs))) s QL ↔ QL xs s := Iff.rfl
theorem ok_fListT : Okx E (lft (listP (.tup xs))) s QL ↔ QL xs s := Iff.rfl
theorem ok_fTupleL : Okx E (lft (tupleP (.lst xs))) s Q ↔ Q (.tup xs) s := Iff.rfl
theorem ok_fTupleT : Okx E (lft (tupleP (.tup xs))) s Q ↔ Q (.tup xs) s := Iff.rfl
theorem eqP_data {neg : Bool} {v w : PV} {d e : PyData} (hv : v.toD = some d) (hw : w.toD = some e) (h1 : SeqAt.shaped d = true) (h2 : SeqAt.shaped e = true) : eqP neg v w = some (.bl (if neg then !PyData.eqv d e else PyData.eqv d e)) := by
  unfold eqP
  split
  · rw [PV.toD] at hv hw
    cases hv
    cases hw
    simp [PyData.eqv]
  · simp [hv, hw, h1, h2]
theorem ok_eqD {neg : Bool} {v w : PV} {d e : PyData} (hv : v.toD = some d) (hw : w.toD = some e) (h1 : SeqAt.shaped d = true) (h2 : SeqAt.shaped e = true) : Okx E (lft (eqP neg v w)) s Q ↔ Q (.bl (if neg then !PyData.eqv d e else PyData.eqv d e)) s := by
  rw [ok_lft, eqP_data hv hw h1 h2]
  simp
theorem shaped_int {i : Int} : SeqAt.shaped (PyData.int i) = true := by unfold SeqAt.shaped; simp [PyData.canLay0, PyData.depth]
theorem shaped_bool {i : Bool} : SeqAt.shaped (PyData.bool i) = true := by unfold SeqAt.shaped; simp [PyData.canLay0, PyData.depth]
theorem ok_eqI {neg : Bool} : Okx E (lft (eqP neg (.int a) (.int b))) s Q ↔ Q (.bl (if neg then !(a == b) else a == b)) s := by
  have e : PyData.eqv (.int a) (.int b) = (a == b) := by simp [PyData.eqv]
  rw [ok_eqD (d := .int a) (e := .int b) (by rw [PV.toD]) (by rw [PV.toD]) shaped_int shaped_int, e]
theorem ok_eqS {neg : Bool} : Okx E (lft (eqP neg (.str x) (.str y))) s Q ↔ Q (.bl (if neg then !(x == y) else x == y)) s := by
  rw [ok_lft]
  unfold eqP
  simp
theorem ok_eqB {neg : Bool} {a b : Bool} : Okx E (lft (eqP neg (.bl a) (.bl b))) s Q ↔ Q (.bl (if neg then !(a == b) else a == b)) s := by
  have e : PyData.eqv (.bool a) (.bool b) = (a == b) := by simp [PyData.eqv]
  rw [ok_eqD (d := .bool a) (e := .bool b) (by rw [PV.toD]) (by rw [PV.toD]) shaped_bool shaped_bool, e]
/-- xs == [] -/
theorem ok_eqNil {neg : Bool} {ds : List PyData} (h : PV.toDs xs = some ds) (hs : SeqAt.shaped (.list ds) = true) : Okx E (lft (eqP neg (.lst xs) (.lst []))) s Q ↔ Q (.bl (if neg then !xs.isEmpty else xs.isEmpty)) s := by
  have e1 : (PV.lst xs).toD = some (.list ds) := by rw [PV.toD, h]; rfl
  have e2 : (PV.lst []).toD = some (.list []) := by rw [PV.toD, PV.toDs]; rfl
  have e3 : SeqAt.shaped (.list []) = true := by decide +kernel
  have e4 : PyData.eqv (.list ds) (.list []) = xs.isEmpty := by
    rw [PyData.eqv]
    cases xs with
    | nil => rw [PV.toDs] at h; cases h; rw [PyData.eqvAll]; rfl
    | cons z r =>
      rw [PV.toDs] at h
      split at h
      · cases h; rw [PyData.eqvAll]; rfl
      · cases h
  rw [ok_eqD e1 e2 hs e3, e4]
theorem toDs_ints (ns : List Int) : PV.toDs (ns.map PV.int) = some (ns.map PyData.int) := by
  induction ns with
  | nil => rw [List.map_nil, PV.toDs]; rfl
  | cons n r ih => rw [List.map_cons, PV.toDs, ih, PV.toD]; rfl
theorem canLay_ints (ns : List Int) : PyData.canLayAll0 (ns.map PyData.int) = true := by
  induction ns with
  | nil => rfl
  | cons n r ih => rw [List.map_cons, PyData.canLayAll0, ih, PyData.canLay0]; rfl
theorem depth_ints (ns : List Int) : PyData.depthAll (ns.map PyData.int) ≤ 1 := by
  induction ns with
  | nil => decide
  | cons n r ih =>
    rw [List.map_cons, PyData.depthAll, PyData.depth]
    omega
theorem shaped_list {ds : List PyData} (h1 : PyData.canLayAll0 ds = true) (h2 : PyData.depthAll ds ≤ 60) : SeqAt.shaped (.list ds) = true := by
  unfold SeqAt.shaped
  rw [PyData.canLay0, PyData.depth, h1]
  simp
  omega
theorem shaped_ints (ns : List Int) : SeqAt.shaped (.list (ns.map PyData.int)) = true := shaped_list (canLay_ints ns) (Nat.le_trans (depth_ints ns) (by decide))
theorem ok_prsN {QK : List (L2.Key × PV) → S → Prop} : Okx E (prsM []) s QK ↔ QK [] s := Iff.rfl
theorem ok_prsC {k : Str} {c : M PV} {r : List (Str × M PV)} {QK : List (L2.Key × PV) → S → Prop} : Okx E (prsM ((k, c) :: r)) s QK ↔ Okx E c s (fun d s' => Okx E (prsM r) s' (fun ds s2 => QK ((.inr k, d) :: ds) s2)) := by
  show Okx E (bnd c fun d => bnd (prsM r) fun ds => ret ((.inr k, d) :: ds)) s QK ↔ _
  rw [ok_bnd]
  exact ⟨fun h => h.imp fun a s' q => ok_bnd.mp q, fun h => h.imp fun a s' q => ok_bnd.mpr q⟩
theorem ok_dispM {kcs : List (Str × M PV)} : Okx E (dispM kcs) s Q ↔ Okx E (prsM kcs) s (fun kvs s' => kvs.length ≤ 15 ∧ Q (.hnd s'.sto.length) ⟨s'.env, s'.sto ++ [.dic (mergeP [] kvs)]⟩) := by
  unfold dispM
  rw [ok_bnd]
  have key : ∀ (kvs : List (L2.Key × PV)) (s' : S), Okx E (fun s : S => if kvs.length ≤ 15 then Res.ok (PV.hnd s.sto.length) { s with sto := s.sto ++ [.dic (mergeP [] kvs)] } else .stk) s' Q ↔ (kvs.length ≤ 15 ∧ Q (.hnd s'.sto.length) ⟨s'.env, s'.sto ++ [.dic (mergeP [] kvs)]⟩) := fun kvs s' => by
    unfold Okx
    by_cases h : kvs.length ≤ 15
    · simp [h]
    · simp [h]
  exact ⟨fun h => h.imp fun a s' q => (key a s').mp q, fun h => h.imp fun a s' q => (key a s').mpr q⟩
end
/-! ### a pen: the script's cells, how many were begun, what is left -/
section
variable {kc kb kl : Str} {cells : List Int} {b l v : Int} {E : PV → S → Prop}
def penD (kc kb kl : Str) (cells : List Int) (b l : Int) : List (L2.Key × PV) := [(.inr kc, .lst (cells.map .int)), (.inr kb, .int b), (.inr kl, .int l)]
structure Keys3 (kc kb kl : Str) : Prop where
  cb : kc ≠ kb
  cl : kc ≠ kl
  bl : kb ≠ kl
theorem pen_c : valP (penD kc kb kl cells b l) (.inr kc) = some (.lst (cells.map .int)) := by
  unfold valP penD
  simp
theorem pen_b (h : Keys3 kc kb kl) : valP (penD kc kb kl cells b l) (.inr kb) = some (.int b) := by
  unfold valP penD
  simp [List.find?_cons, h.cb]
theorem pen_l (h : Keys3 kc kb kl) : valP (penD kc kb kl cells b l) (.inr kl) = some (.int l) := by
  unfold valP penD
  simp [List.find?_cons, h.cl, h.bl]
theorem pen_put_b (h : Keys3 kc kb kl) : putP (penD kc kb kl cells b l) (.inr kb) (.int v) = penD kc kb kl cells v l := by
  unfold putP penD
  simp [h.cb, h.bl.symm]
theorem pen_put_l (h : Keys3 kc kb kl) : putP (penD kc kb kl cells b l) (.inr kl) (.int v) = penD kc kb kl cells b v := by
  unfold putP penD
  simp [h.cl, h.bl]
theorem pen_new (h : Keys3 kc kb kl) : mergeP [] [(.inr kc, .lst (cells.map .int)), (.inr kb, .int b), (.inr kl, .int l)] = penD kc kb kl cells b l := by
  unfold mergeP putP penD
  simp [h.cb, h.cl, h.bl]
end
end Dn
/-! Pl3: more answers: subscripts, unpacking, sorting, membership, blocks that answer somehow. -/
namespace Dn
open PySem
section
variable {s : S} {Q : PV → S → Prop} {QL : List PV → S → Prop} {QF : Fl → S → Prop} {a b : Int} {x y : Str} {xs ys : List PV} {i j : Nat} {ca : M PV} {E : PV → S → Prop}
theorem ok_ixL {k : Int} : Okx E (lft (ixP (.lst xs) (.int k))) s Q ↔ ∃ v, L2.atI xs k = some v ∧ Q v s := ok_lft
theorem ok_ixT {k : Int} : Okx E (lft (ixP (.tup xs) (.int k))) s Q ↔ ∃ v, L2.atI xs k = some v ∧ Q v s := ok_lft
theorem ok_ixS {k : Int} (hx : x.length ≤ sizeLine) : Okx E (lft (ixP (.str x) (.int k))) s Q ↔ ∃ c, L2.atI x.cps.toList k = some c ∧ Q (.str ⟨#[c]⟩) s := by
  rw [ok_lft]
  simp only [ixP, if_pos hx]
  constructor
  · rintro ⟨v, h1, h2⟩
    obtain ⟨c, e, rfl⟩ := Option.map_eq_some_iff.mp h1
    exact ⟨c, e, h2⟩
  · rintro ⟨c, e, h2⟩
    exact ⟨_, by rw [e]; rfl, h2⟩
theorem atI_in {α : Type} {ds : List α} {k : Int} (h0 : 0 ≤ k) (h1 : k < ds.length) : ∃ v, L2.atI ds k = some v ∧ v ∈ ds := by
  obtain ⟨m, rfl⟩ := Int.eq_ofNat_of_zero_le h0
  have hm : m < ds.length := by simpa using h1
  exact ⟨ds[m], L2.atI_nat (List.getElem?_eq_getElem hm), List.getElem_mem hm⟩
def unpK (E : PV → S → Prop) (is : List Nat) (s : S) (Q : Fl → S → Prop) : PV → Prop
  | .tup xs => xs.length = is.length ∧ Okx E (setAll is xs) s Q
  | _ => False
theorem ok_unp {is : List Nat} : Okx E (unpM is ca) s QF ↔ Okx E ca s (fun d s' => unpK E is s' QF d) := by
  unfold unpM
  rw [ok_bnd]
  refine ⟨fun h => h.imp fun a s' q => ?_, fun h => h.imp fun a s' q => ?_⟩ <;> cases a <;> try exact q
  · rename_i zs
    by_cases hl : zs.length = is.length
    · have q : Okx E (if zs.length = is.length then setAll is zs else stuck) s' QF := q
      rw [if_pos hl] at q
      exact ⟨hl, q⟩
    · have q : Okx E (if zs.length = is.length then setAll is zs else stuck) s' QF := q
      rw [if_neg hl] at q
      exact q.elim
  · rename_i zs
    show Okx E (if zs.length = is.length then setAll is zs else stuck) s' QF
    rw [if_pos q.1]
    exact q.2
theorem unpK_tup {is : List Nat} : unpK E is s QF (.tup xs) ↔ xs.length = is.length ∧ Okx E (setAll is xs) s QF := Iff.rfl
theorem ok_set0 : Okx E (setAll [] []) s QF ↔ QF .nx s := Iff.rfl
theorem ok_setC {is : List Nat} {d : PV} {env : Env} {st : List MO} : Okx E (setAll (i :: is) (d :: xs)) ⟨env, st⟩ QF ↔ Okx E (setAll is xs) ⟨env.set i (some (.val d)), st⟩ QF := by
  show Okx E (bnd (setV i d) fun _ => setAll is xs) ⟨env, st⟩ QF ↔ _
  rw [ok_bnd]
  exact Iff.rfl
theorem ok_allL {bs : List Bool} : Okx E (lft (allP (.lst (bs.map .bl)))) s Q ↔ Q (.bl (bs.all id)) s := by
  rw [ok_lft]; simp [allP, blsOf_map]
theorem ok_reprD {v : PV} {d : PyData} (hv : v.toD = some d) (h1 : d.showable = true) (h2 : d.hasDict = false) (h3 : d.depth ≤ 64) (h4 : d.shown.length ≤ sizeLine) : Okx E (lft (reprP v)) s Q ↔ Q (.str d.shown) s := by
  rw [ok_lft]
  have e : reprP v = some (.str d.shown) := by
    unfold reprP
    split
    · rename_i kvs
      rw [PV.toD] at hv
      cases hv
    · simp [hv, h1, h2, h3, h4]
  rw [e]
  simp
/-! ### data that can be shown and compared -/
structure GdD (n w : Nat) (d : PyData) : Prop where
  lay : d.canLay0 = true
  show' : d.showable = true
  short : d.intsShort 13 = true
  dep : d.depth ≤ n
  wt : d.weight ≤ w
structure GdA (n w : Nat) (ds : List PyData) : Prop where
  lay : PyData.canLayAll0 ds = true
  show' : PyData.showableAll ds = true
  short : PyData.intsShortAll 13 ds = true
  dep : PyData.depthAll ds ≤ n
  wt : PyData.weightAll ds ≤ w
def Gd (n w : Nat) (v : PV) : Prop := ∃ d, v.toD = some d ∧ GdD n w d
theorem GdD.mono {n w n' w' : Nat} {d : PyData} (h : GdD n w d) (hn : n ≤ n') (hw : w ≤ w') : GdD n' w' d := ⟨h.lay, h.show', h.short, Nat.le_trans h.dep hn, Nat.le_trans h.wt hw⟩
theorem Gd.mono {n w n' w' : Nat} {v : PV} (h : Gd n w v) (hn : n ≤ n') (hw : w ≤ w') : Gd n' w' v := by
  obtain ⟨d, e, g⟩ := h
  exact ⟨d, e, g.mono hn hw⟩
theorem gdAll {n w : Nat} : ∀ {vs : List PV}, (∀ v ∈ vs, Gd n w v) → ∃ ds, PV.toDs vs = some ds ∧ GdA n (vs.length * (w + 1)) ds
  | [], _ => ⟨[], by rw [PV.toDs], ⟨rfl, rfl, rfl, Nat.zero_le _, Nat.zero_le _⟩⟩
  | v :: vs, h => by
    obtain ⟨d, e, g⟩ := h v List.mem_cons_self
    obtain ⟨ds, es, gs⟩ := gdAll fun z hz => h z (List.mem_cons_of_mem _ hz)
    refine ⟨d :: ds, by rw [PV.toDs, e, es], ⟨?_, ?_, ?_, ?_, ?_⟩⟩
    · rw [PyData.canLayAll0, g.lay, gs.lay]; rfl
    · rw [PyData.showableAll, g.show', gs.show']; rfl
    · rw [PyData.intsShortAll, g.short, gs.short]; rfl
    · rw [PyData.depthAll]; exact Nat.max_le.mpr ⟨g.dep, gs.dep⟩
    · rw [PyData.weightAll, List.length_cons, Nat.add_mul]
      have h1 := g.wt
      have h2 := gs.wt
      omega
theorem gd_lst {n w : Nat} {vs : List PV} (h : ∀ v ∈ vs, Gd n w v) : Gd (n + 1) (vs.length * (w + 1)) (.lst vs) := by
  obtain ⟨ds, e, g⟩ := gdAll h
  refine ⟨.list ds, by rw [PV.toD, e]; rfl, ⟨?_, ?_, ?_, ?_, ?_⟩⟩
  · rw [PyData.canLay0]; exact g.lay
  · rw [PyData.showable]; exact g.show'
  · rw [PyData.intsShort]; exact g.short
  · rw [PyData.depth]; have := g.dep; omega
  · rw [PyData.weight]; exact g.wt
theorem gd_tup {n w : Nat} {vs : List PV} (h : ∀ v ∈ vs, Gd n w v) : Gd (n + 1) (vs.length * (w + 1)) (.tup vs) := by
  obtain ⟨ds, e, g⟩ := gdAll h
  refine ⟨.tuple ds, by rw [PV.toD, e]; rfl, ⟨?_, ?_, ?_, ?_, ?_⟩⟩
  · rw [PyData.canLay0]; exact g.lay
  · rw [PyData.showable]; exact g.show'
  · rw [PyData.intsShort]; exact g.short
  · rw [PyData.depth]; have := g.dep; omega
  · rw [PyData.weight]; exact g.wt
theorem gd_str {n w : Nat} {x : Str} (h : PyData.strOk x = true) (hw : x.length ≤ w) : Gd n w (.str x) := by
  refine ⟨.str x, by rw [PV.toD], ⟨by rw [PyData.canLay0]; exact h, by rw [PyData.showable], by rw [PyData.intsShort], by rw [PyData.depth]; exact Nat.zero_le _, by rw [PyData.weight]; exact hw⟩⟩
theorem gd_bl {n w : Nat} {b : Bool} : Gd n w (.bl b) :=
  ⟨.bool b, by rw [PV.toD], ⟨by rw [PyData.canLay0], by rw [PyData.showable], by rw [PyData.intsShort], by rw [PyData.depth]; exact Nat.zero_le _, by rw [PyData.weight]; exact Nat.zero_le _⟩⟩
theorem gd_non {n w : Nat} : Gd n w .non :=
  ⟨.none, by rw [PV.toD], ⟨by rw [PyData.canLay0], by rw [PyData.showable], by rw [PyData.intsShort], by rw [PyData.depth]; exact Nat.zero_le _, by rw [PyData.weight]; exact Nat.zero_le _⟩⟩
theorem gd_int {n : Nat} {k : Int} (h : k.natAbs < 10 ^ 12) : Gd n 40 (.int k) := by
  have hl : k.natAbs.log2 < 40 := log_lt (Nat.lt_trans h (by decide)) (by decide)
  refine ⟨.int k, by rw [PV.toD], ⟨by rw [PyData.canLay0], ?_, ?_, by rw [PyData.depth]; exact Nat.zero_le _, ?_⟩⟩
  · rw [PyData.showable, decide_eq_true_eq]; omega
  · rw [PyData.intsShort, decide_eq_true_eq]; exact PyData.shown_int_le h
  · rw [PyData.weight]
    split <;> omega
theorem GdA.shaped {n w : Nat} {ds : List PyData} (h : GdA n w ds) (hn : n ≤ 60) : SeqAt.shaped (.list ds) = true := shaped_list h.lay (Nat.le_trans h.dep hn)
theorem GdD.shaped {n w : Nat} {d : PyData} (h : GdD n w d) (hn : n ≤ 60) : SeqAt.shaped d = true := by
  have h2 : d.depth ≤ 60 := Nat.le_trans h.dep hn
  unfold SeqAt.shaped
  rw [h.lay]
  simp
  omega
/-- the text that repr gives -/
def rp (v : PV) : Str := match v.toD with
  | some d => d.shown
  | none => ""
/-! ### texts: valid ones -/
def sOk (w : Nat) (x : Str) : Prop := PyData.strOk x = true ∧ x.length ≤ w
theorem strOk_iff {x : Str} : PyData.strOk x = true ↔ ∀ c ∈ x.cps.toList, c < 0x110000 := by
  unfold PyData.strOk
  constructor
  · intro h c hc
    have := (Array.all_eq_true_iff_forall_mem.mp h) c (Array.mem_toList_iff.mp hc)
    simpa using this
  · intro h
    refine Array.all_eq_true_iff_forall_mem.mpr fun c hc => ?_
    have := h c (Array.mem_toList_iff.mpr hc)
    simpa using this
theorem sOk.mono {w w' : Nat} (hx : sOk w x) (h : w ≤ w') : sOk w' x := ⟨hx.1, Nat.le_trans hx.2 h⟩
/-! ### an answer as an equation -/
theorem Okx.eq {α : Type} {c : M α} {s s' : S} {a : α} (h : Ok c s (fun b t => b = a ∧ t = s')) : c s = .ok a s' := by
  obtain ⟨b, t, e, rfl, rfl⟩ := h.ex
  exact e
theorem OkFx.eq {r : RR} {d : PV} {st : List MO} (h : OkF r (fun b t => b = d ∧ t = st)) : r = .ok d st := by
  obtain ⟨b, t, e, rfl, rfl⟩ := h.ex
  exact e
theorem OkFx.of {r : RR} {d : PV} {st : List MO} {Q : PV → List MO → Prop} (e : r = .ok d st) (h : Q d st) : OkF r Q := by rw [e]; exact h
theorem flK_nx {N : S → Prop} : flK QF N s .nx ↔ N s := Iff.rfl
theorem flK_ct {N : S → Prop} : flK QF N s .ct ↔ N s := Iff.rfl
theorem flK_bk {N : S → Prop} : flK QF N s .bk ↔ QF .nx s := Iff.rfl
theorem flK_ro {N : S → Prop} {d : List PV} : flK QF N s (.ro d) ↔ QF (.ro d) s := Iff.rfl
theorem flK_rt {N : S → Prop} {d : PV} : flK QF N s (.rt d) ↔ QF (.rt d) s := Iff.rfl
theorem sl_L {lo hi : Option Int} {R : PV → Prop} : (∃ z, slP (.lst xs) lo hi = some z ∧ R z) ↔ R (.lst (cutP xs lo hi)) := by simp [slP]
theorem sl_T {lo hi : Option Int} {R : PV → Prop} : (∃ z, slP (.tup xs) lo hi = some z ∧ R z) ↔ R (.tup (cutP xs lo hi)) := by simp [slP]
theorem sl_S {lo hi : Option Int} {R : PV → Prop} : (∃ z, slP (.str x) lo hi = some z ∧ R z) ↔ x.length ≤ sizeLine ∧ R (.str (L2.cutS x lo hi)) := by
  show (∃ z, (if x.length ≤ sizeLine then some (PV.str (L2.cutS x lo hi)) else none) = some z ∧ R z) ↔ _
  exact opt_if
theorem it_L {R : List PV → Prop} : (∃ z, itemsP (.lst xs) = some z ∧ R z) ↔ R xs := by simp [itemsP]
theorem it_T {R : List PV → Prop} : (∃ z, itemsP (.tup xs) = some z ∧ R z) ↔ R xs := by simp [itemsP]
/-! ### own lists -/
theorem ok_chkO {env : Env} {st : List MO} {QU : Unit → S → Prop} : Okx E (chkO i) ⟨env, st⟩ QU ↔ (∃ zs, env[i]? = some (some (.own zs))) ∧ QU () ⟨env, st⟩ := by
  unfold Okx chkO
  dsimp only
  rcases env[i]? with _ | _ | sv
  · exact ⟨fun h => h.elim, fun ⟨⟨_, h⟩, _⟩ => nomatch h⟩
  · exact ⟨fun h => h.elim, fun ⟨⟨_, h⟩, _⟩ => nomatch h⟩
  · cases sv with
    | val => exact ⟨fun h => h.elim, fun ⟨⟨_, h⟩, _⟩ => nomatch h⟩
    | own zs => exact ⟨fun h => ⟨⟨zs, rfl⟩, h⟩, fun h => h.2⟩
theorem ok_app {env : Env} {st : List MO} : Okx E (appM i ca) ⟨env, st⟩ Q ↔ (∃ zs, env[i]? = some (some (.own zs))) ∧ Okx E ca ⟨env, st⟩ (fun d s' => Okx E (pushM i d) s' Q) := by
  unfold appM
  rw [ok_bnd, ok_chkO, ok_bnd]
theorem ok_push {env : Env} {st : List MO} {d : PV} {zs : List PV} (h : env[i]? = some (some (.own zs))) (hl : zs.length < sizeLine) : Okx E (pushM i d) ⟨env, st⟩ Q ↔ Q .non ⟨env.set i (some (.own (zs ++ [d]))), st⟩ := by
  unfold Okx pushM
  simp only [h, hl, if_true]
/-! ### blocks that answer somehow -/
/-- with every turn making one thing -/
theorem ok_lcEach {vs : List Nat} {elt : M PV} {zs : List PV} {env : Env} {st : List MO} (I : Nat → List MO → Prop) (R : PV → Prop) (hw : wip env vs = env) (hi : i ∈ vs) (hl : zs.length ≤ sizeLine) (h0 : I 0 st)
    (hwi : ∀ x : PV, wip (env.set i (some (.val x))) vs = env)
    (hc : ∀ k x st, zs[k]? = some x → I k st → Ok elt ⟨env.set i (some (.val x)), st⟩ (fun y s2 => s2.env = env.set i (some (.val x)) ∧ R y ∧ I (k + 1) s2.sto))
    (hd : ∀ ys st', ys.length = zs.length → (∀ y ∈ ys, R y) → I zs.length st' → QL ys ⟨env, st'⟩) : Okx E (lcGo i vs (ret true) elt zs []) ⟨env, st⟩ QL := by
  refine ok_lcGo (fun k acc s => k ≤ zs.length ∧ s.env = env ∧ I k s.sto ∧ acc.length = k ∧ ∀ y ∈ acc, R y) ⟨Nat.zero_le _, rfl, h0, rfl, fun y h => by cases h⟩ ?_ ?_
  · rintro k x acc ⟨env', st'⟩ hx ⟨hk, rfl, hI, hla, hR⟩
    have hk' : k < zs.length := (List.getElem?_eq_some_iff.mp hx).1
    show Ok elt _ _
    refine (hc k x st' hx hI).imp fun y s2 q2 => ⟨by omega, hk', by rw [q2.1, hwi], q2.2.2, by simp; omega, fun z hz => ?_⟩
    rcases List.mem_append.mp hz with hz | hz
    · exact hR z hz
    · rw [List.mem_singleton.mp hz]
      exact q2.2.1
  · rintro acc ⟨env', st'⟩ ⟨_, rfl, hI, hla, hR⟩
    exact hd acc st' hla hR hI
/-- a typed filter and map: nothing changes -/
theorem ok_lcT {α : Type} {vs : List Nat} {cond : M Bool} {elt : M PV} {as : List α} (g : α → PV) {env : Env} {st : List MO} (p : α → Bool) (f : α → PV) (hw : wip env vs = env) (hi : i ∈ vs) (hl : as.length ≤ sizeLine)
    (hwi : ∀ x : PV, wip (env.set i (some (.val x))) vs = env)
    (hc : ∀ a ∈ as, Ok cond ⟨env.set i (some (.val (g a))), st⟩ (fun b s1 => b = p a ∧ s1 = ⟨env.set i (some (.val (g a))), st⟩))
    (he : ∀ a ∈ as, p a = true → Ok elt ⟨env.set i (some (.val (g a))), st⟩ (fun y s1 => y = f a ∧ s1 = ⟨env.set i (some (.val (g a))), st⟩))
    (hd : QL ((as.filter p).map f) ⟨env, st⟩) : Okx E (lcGo i vs cond elt (as.map g) []) ⟨env, st⟩ QL := by
  refine ok_lcGo (fun k acc s => s = ⟨env, st⟩ ∧ acc = ((as.take k).filter p).map f) ⟨rfl, by simp⟩ ?_ ?_
  · rintro k x acc s' hx ⟨rfl, rfl⟩
    rw [List.getElem?_map] at hx
    obtain ⟨a, hx2, rfl⟩ := Option.map_eq_some_iff.mp hx
    clear hx
    have hx := hx2
    have hm : a ∈ as := List.mem_of_getElem? hx
    have hk : k < as.length := (List.getElem?_eq_some_iff.mp hx).1
    have ht : as.take (k + 1) = as.take k ++ [a] := by
      rw [List.take_succ, hx]
      rfl
    refine (hc a hm).imp fun b s1 q => ?_
    obtain ⟨rfl, rfl⟩ := q
    cases hp : p a with
    | true =>
      simp only [if_true]
      refine (he a hm hp).imp fun y s2 q => ?_
      obtain ⟨rfl, rfl⟩ := q
      refine ⟨?_, by simp only [hwi], ?_⟩
      · refine Nat.lt_of_lt_of_le ?_ hl
        rw [List.length_map]
        exact Nat.lt_of_le_of_lt (List.length_filter_le _ _) (by rw [List.length_take]; omega)
      · rw [ht, List.filter_append, List.map_append, List.filter_cons, hp]
        rfl
    | false =>
      simp only [Bool.false_eq_true, if_false]
      refine ⟨by simp only [hwi], ?_⟩
      rw [ht, List.filter_append, List.map_append, List.filter_cons, hp]
      simp
  · rintro acc s' ⟨rfl, rfl⟩
    rw [List.length_map, List.take_length]
    exact hd
theorem ex_map {α : Type} {f : α → PV} {P : α → Prop} : ∀ {ys : List PV}, (∀ y ∈ ys, ∃ a, y = f a ∧ P a) → ∃ as : List α, ys = as.map f ∧ ∀ a ∈ as, P a
  | [], _ => ⟨[], rfl, fun a h => by cases h⟩
  | y :: ys, h => by
    obtain ⟨a, rfl, ha⟩ := h y List.mem_cons_self
    obtain ⟨as, rfl, h2⟩ := ex_map fun z hz => h z (List.mem_cons_of_mem _ hz)
    exact ⟨a :: as, rfl, fun b hb => by
      rcases List.mem_cons.mp hb with rfl | hb
      · exact ha
      · exact h2 b hb⟩
end
end Dn
/-! Pl4: cuts, joined texts, ranges, lots of titles. -/
namespace Dn
open PySem
section
variable {s : S} {Q : PV → S → Prop} {QL : List PV → S → Prop} {QF : Fl → S → Prop} {a b : Int} {x y : Str} {xs ys : List PV} {i j : Nat} {ca : M PV} {E : PV → S → Prop}
theorem sum_le {w : Nat} : ∀ {zs : List Str}, (∀ z ∈ zs, z.length ≤ w) → (zs.map (·.length)).sum ≤ zs.length * w
  | [], _ => Nat.zero_le _
  | z :: zs, h => by
    have h1 := h z List.mem_cons_self
    have h2 := sum_le fun z hz => h z (List.mem_cons_of_mem _ hz)
    rw [List.map_cons, List.sum_cons, List.length_cons, Nat.add_mul]
    omega
theorem joinP_map {zs : List Str} (h : (zs.map (·.length)).sum + zs.length * x.length ≤ 16777216) : joinP x (.lst (zs.map .str)) = some (.str (Txt.join x zs)) := by
  unfold joinP
  simp [strsOf_map, h]
theorem rngP_nat {k : Int} (h0 : 0 ≤ k) (h1 : k < 2 ^ 62) : rngP (.int k) = some ((List.range k.toNat).map fun (k : Nat) => PV.int (0 + (k : Int))) := by
  have : -(2 ^ 62) ≤ k ∧ k < 2 ^ 62 := by omega
  simp only [rngP, if_pos this]
theorem rng_get {k : Int} {t : Nat} {v : PV} (h : ((List.range k.toNat).map fun (k : Nat) => PV.int (0 + (k : Int)))[t]? = some v) : v = .int t ∧ (t : Int) < k := by
  rw [List.getElem?_map] at h
  obtain ⟨u, h1, rfl⟩ := Option.map_eq_some_iff.mp h
  obtain ⟨h2, h3⟩ := List.getElem?_eq_some_iff.mp h1
  rw [List.length_range] at h2
  rw [List.getElem_range] at h3
  subst h3
  refine ⟨by simp, by omega⟩
theorem rng_len {k : Int} : ((List.range k.toNat).map fun (k : Nat) => PV.int (0 + (k : Int))).length = k.toNat := by simp
theorem ones_fold : ∀ (ps : List Str) (acc : Array Nat), (∀ z ∈ ps, z.length = 1) → (ps.foldl (fun acc p => acc ++ (Str.ofString "").cps ++ p.cps) acc).size = acc.size + ps.length
  | [], acc, _ => rfl
  | p :: ps, acc, h => by
    rw [List.foldl_cons, ones_fold ps _ fun z hz => h z (List.mem_cons_of_mem _ hz), Array.size_append, Array.size_append]
    have e1 : (Str.ofString "").cps.size = 0 := rfl
    have e2 : p.cps.size = 1 := h p List.mem_cons_self
    rw [e1, e2, List.length_cons]
    omega
theorem join_one : ∀ zs : List Str, (∀ z ∈ zs, z.length = 1) → (Txt.join (Str.ofString "") zs).length = zs.length
  | [], _ => rfl
  | z :: r, h => by
    show (r.foldl (fun acc p => acc ++ (Str.ofString "").cps ++ p.cps) z.cps).size = _
    rw [ones_fold r _ fun y hy => h y (List.mem_cons_of_mem _ hy), List.length_cons]
    have e2 : z.cps.size = 1 := h z List.mem_cons_self
    omega
/-! ### lots: titles in tuples -/
end
end Dn
/-! Pl5: filters that answer somehow; lots of titles. -/
namespace Dn
open PySem
section
variable {s : S} {Q : PV → S → Prop} {QL : List PV → S → Prop} {i : Nat} {E : PV → S → Prop}
def Lt (l : List Str) : Prop := l.length ≤ 7 ∧ ∀ x ∈ l, sOk 40 x
def Ls (m : Nat) (ls : List (List Str)) : Prop := ls.length ≤ m ∧ ∀ l ∈ ls, Lt l
theorem Ls.mono {m m' : Nat} {ls : List (List Str)} (h : Ls m ls) (hm : m ≤ m') : Ls m' ls := ⟨Nat.le_trans h.1 hm, h.2⟩
theorem Ls.sub {m : Nat} {ls ls' : List (List Str)} (h : Ls m ls) (hl : ls'.length ≤ ls.length) (hs : ∀ l ∈ ls', l ∈ ls) : Ls m ls' := ⟨Nat.le_trans hl h.1, fun l hm => h.2 l (hs l hm)⟩
theorem filter_true {α : Type} (l : List α) : l.filter (fun _ => true) = l := List.filter_eq_self.mpr fun _ _ => rfl
theorem ok_seq {fa fb : M Fl} {Q : Fl → S → Prop} (h : Okx E fa s (fun fl s' => seqK E fb s' Q fl)) : Okx E (seqM fa fb) s Q := ok_seqM.mpr h
theorem ok_allM {α : Type} {p : α → Bool} {as : List α} : Okx E (lft (allP (.lst (as.map fun a => .bl (p a))))) s Q ↔ Q (.bl (as.all p)) s := by
  have e : (as.map fun a => PV.bl (p a)) = (as.map p).map PV.bl := by rw [List.map_map]; rfl
  rw [e, ok_allL, List.all_map]
  rfl
theorem Ls.app {m k : Nat} {a b : List (List Str)} (h1 : Ls m a) (h2 : Ls k b) : Ls (m + k) (a ++ b) := ⟨by rw [List.length_append]; exact Nat.add_le_add h1.1 h2.1, fun l hl => by
  rcases List.mem_append.mp hl with hl | hl
  · exact h1.2 l hl
  · exact h2.2 l hl⟩
theorem Ls.one {l : List Str} (h : Lt l) : Ls 1 [l] := ⟨Nat.le_refl _, fun x hx => by rw [List.mem_singleton.mp hx]; exact h⟩
end
end Dn
/-! Pl6: more answers: objects, methods, exceptions. -/
namespace Dn
open PySem
section
variable {s : S} {Q : PV → S → Prop} {QL : List PV → S → Prop} {QF : Fl → S → Prop} {a b : Int} {x y : Str} {xs ys : List PV} {i j n : Nat} {ca cb cc : M PV} {ra rb : M (List PV)} {fa fb : M Fl} {E : PV → S → Prop} {env : Env} {st : List MO} {m : Fn} {ds : List PV}
theorem okF_ok {EF : PV → List MO → Prop} {Q : PV → List MO → Prop} {d : PV} : OkFx EF (.ok d st) Q ↔ Q d st := Iff.rfl
theorem okF_exc {EF : PV → List MO → Prop} {Q : PV → List MO → Prop} {d : PV} : OkFx EF (.exc d st) Q ↔ EF d st := Iff.rfl
theorem OkFx.eqx {r : RR} {e : PV} (h : OkFx (fun b t => b = e ∧ t = st) r (fun _ _ => False)) : r = .exc e st := by
  cases r with
  | ok => exact h.elim
  | exc e' st' => obtain ⟨rfl, rfl⟩ := h; rfl
  | stk => exact h.elim
theorem ok_runM : Okx E (runM m n ds) s Q ↔ OkFx (fun e st => E e ⟨s.env, st⟩) (m n ds s.sto) (fun d st => Q d ⟨s.env, st⟩) := by
  unfold Okx OkFx runM
  dsimp only
  cases m n ds s.sto <;> exact Iff.rfl
theorem ok_appA : Okx E (appA i j ra rb) s QL ↔ Okx E ra s (fun a s1 => Okx E rb s1 (fun b s2 => (a.length = i ∧ b.length = j) ∧ QL (a ++ b) s2)) := by
  unfold appA
  rw [ok_bnd]
  have key : ∀ (a b : List PV) (s : S), Okx E (if a.length = i ∧ b.length = j then ret (a ++ b) else stuck) s QL ↔ (a.length = i ∧ b.length = j) ∧ QL (a ++ b) s := fun a b s => by
    by_cases h : a.length = i ∧ b.length = j
    · rw [if_pos h]; exact ⟨fun q => ⟨h, q⟩, fun q => q.2⟩
    · rw [if_neg h]; exact ⟨fun q => q.elim, fun q => (h q.1).elim⟩
  exact ⟨fun h => h.imp fun a s1 q => (ok_bnd.mp q).imp fun b s2 q => (key a b s2).mp q, fun h => h.imp fun a s1 q => ok_bnd.mpr (q.imp fun b s2 q => (key a b s2).mpr q)⟩
theorem ok_len1 : Okx E (bnd ra fun ds => if ds.length = i then ret ds else stuck) s QL ↔ Okx E ra s (fun ds s1 => ds.length = i ∧ QL ds s1) := by
  rw [ok_bnd]
  have key : ∀ (a : List PV) (s : S), Okx E (if a.length = i then ret a else stuck) s QL ↔ a.length = i ∧ QL a s := fun a s => by
    by_cases h : a.length = i
    · rw [if_pos h]; exact ⟨fun q => ⟨h, q⟩, fun q => q.2⟩
    · rw [if_neg h]; exact ⟨fun q => q.elim, fun q => (h q.1).elim⟩
  exact ⟨fun h => h.imp fun a s1 q => (key a s1).mp q, fun h => h.imp fun a s1 q => (key a s1).mpr q⟩
theorem ok_chain {f g : PV → PV → M PV} : Okx E (chainM f g ca cb cc) s Q ↔ Okx E ca s (fun a s1 => Okx E cb s1 (fun b s2 => Okx E (f a b) s2 (fun d s3 => blK s3 (fun x => if x = true then Okx E cc s3 (fun c s4 => Okx E (g b c) s4 Q) else Q (.bl false) s3) d))) := by
  unfold chainM
  rw [ok_bnd]
  have key : ∀ (b d : PV) (s : S), Okx E (match d with
    | .bl true => bnd cc fun c => g b c
    | .bl false => ret (.bl false)
    | _ => stuck : M PV) s Q ↔ blK s (fun x => if x = true then Okx E cc s (fun c s4 => Okx E (g b c) s4 Q) else Q (.bl false) s) d := fun b d s => by
    cases d <;> try exact Iff.rfl
    rename_i z
    cases z
    · exact Iff.rfl
    · exact ok_bnd
  exact ⟨fun h => h.imp fun a s1 q => (ok_bnd.mp q).imp fun b s2 q => (ok_bnd.mp q).imp fun d s3 q => (key b d s3).mp q,
    fun h => h.imp fun a s1 q => ok_bnd.mpr (q.imp fun b s2 q => ok_bnd.mpr (q.imp fun d s3 q => (key b d s3).mpr q))⟩
def isNonB : PV → Bool
  | .non => true
  | _ => false
theorem isNonB_non : isNonB .non = true := rfl
theorem isNonB_int : isNonB (.int a) = false := rfl
theorem isNonB_bl {b : Bool} : isNonB (.bl b) = false := rfl
theorem isNonB_str : isNonB (.str x) = false := rfl
theorem isNonB_tup : isNonB (.tup xs) = false := rfl
theorem isNonB_lst : isNonB (.lst xs) = false := rfl
theorem isNonB_obj {c : Str} {ks : List Str} : isNonB (.obj c ks xs) = false := rfl
theorem ok_isN {neg : Bool} : Okx E (isN neg ca) s Q ↔ Okx E ca s (fun d s1 => Q (.bl (isNonB d != neg)) s1) := by
  unfold isN
  rw [ok_bnd]
  refine ⟨fun h => h.imp fun a s' q => ?_, fun h => h.imp fun a s' q => ?_⟩ <;> cases a <;> cases neg <;> exact q
theorem ok_max : Okx E (lft (maxP (.int a) (.int b))) s Q ↔ Q (.int (max a b)) s := by
  have e : (if b > a then b else a) = max a b := by rw [Int.max_def]; split <;> split <;> omega
  rw [ok_lft, ← e]
  simp [maxP]
theorem ok_min : Okx E (lft (minP (.int a) (.int b))) s Q ↔ Q (.int (min a b)) s := by
  have e : (if b < a then b else a) = min a b := by rw [Int.min_def]; split <;> split <;> omega
  rw [ok_lft, ← e]
  simp [minP]
/-! isinstance of built-in types -/
theorem isi_of {t nm : String} {d : PV} {r : Bool} (h : tyP d = some t) (k : L2.kitB t nm = some r) : Okx E (lft (isiP nm d)) s Q ↔ Q (.bl r) s := by
  rw [ok_lft]
  simp [isiP, h, k]
theorem isi_int_int : Okx E (lft (isiP "int" (.int a))) s Q ↔ Q (.bl true) s := isi_of rfl (by decide +kernel)
theorem isi_int_bl {b : Bool} : Okx E (lft (isiP "int" (.bl b))) s Q ↔ Q (.bl true) s := isi_of rfl (by decide +kernel)
theorem isi_int_non : Okx E (lft (isiP "int" .non)) s Q ↔ Q (.bl false) s := isi_of rfl (by decide +kernel)
theorem isi_int_str : Okx E (lft (isiP "int" (.str x))) s Q ↔ Q (.bl false) s := isi_of rfl (by decide +kernel)
theorem isi_int_tup : Okx E (lft (isiP "int" (.tup xs))) s Q ↔ Q (.bl false) s := isi_of rfl (by decide +kernel)
theorem isi_int_lst : Okx E (lft (isiP "int" (.lst xs))) s Q ↔ Q (.bl false) s := isi_of rfl (by decide +kernel)
theorem isi_bool_int : Okx E (lft (isiP "bool" (.int a))) s Q ↔ Q (.bl false) s := isi_of rfl (by decide +kernel)
theorem isi_bool_bl {b : Bool} : Okx E (lft (isiP "bool" (.bl b))) s Q ↔ Q (.bl true) s := isi_of rfl (by decide +kernel)
theorem isi_str_str : Okx E (lft (isiP "str" (.str x))) s Q ↔ Q (.bl true) s := isi_of rfl (by decide +kernel)
theorem isi_str_int : Okx E (lft (isiP "str" (.int a))) s Q ↔ Q (.bl false) s := isi_of rfl (by decide +kernel)
theorem isi_str_bl {b : Bool} : Okx E (lft (isiP "str" (.bl b))) s Q ↔ Q (.bl false) s := isi_of rfl (by decide +kernel)
theorem isi_str_non : Okx E (lft (isiP "str" .non)) s Q ↔ Q (.bl false) s := isi_of rfl (by decide +kernel)
theorem isi_str_tup : Okx E (lft (isiP "str" (.tup xs))) s Q ↔ Q (.bl false) s := isi_of rfl (by decide +kernel)
theorem isi_str_lst : Okx E (lft (isiP "str" (.lst xs))) s Q ↔ Q (.bl false) s := isi_of rfl (by decide +kernel)
theorem isi_tuple_tup : Okx E (lft (isiP "tuple" (.tup xs))) s Q ↔ Q (.bl true) s := isi_of rfl (by decide +kernel)
theorem isi_tuple_int : Okx E (lft (isiP "tuple" (.int a))) s Q ↔ Q (.bl false) s := isi_of rfl (by decide +kernel)
theorem isi_tuple_bl {b : Bool} : Okx E (lft (isiP "tuple" (.bl b))) s Q ↔ Q (.bl false) s := isi_of rfl (by decide +kernel)
theorem isi_tuple_non : Okx E (lft (isiP "tuple" .non)) s Q ↔ Q (.bl false) s := isi_of rfl (by decide +kernel)
theorem isi_tuple_str : Okx E (lft (isiP "tuple" (.str x))) s Q ↔ Q (.bl false) s := isi_of rfl (by decide +kernel)
theorem isi_tuple_lst : Okx E (lft (isiP "tuple" (.lst xs))) s Q ↔ Q (.bl false) s := isi_of rfl (by decide +kernel)
/-! ### fields -/
def fldV (cs : List Str) (f : Str) (s : S) (d : PV) : Option PV := match insOf s d with
  | some (c, ks, vs) => if c ∈ cs then (ks.zip vs).lookup f else none
  | none => none
theorem ok_fldM {cs : List Str} {f : Str} {d : PV} : Okx E (fldM cs f d) s Q ↔ ∃ v, fldV cs f s d = some v ∧ Q v s := by
  unfold Okx fldM fldV
  cases insOf s d with
  | none => exact ⟨fun h => h.elim, fun ⟨_, h, _⟩ => nomatch h⟩
  | some t =>
    obtain ⟨c, ks, vs⟩ := t
    dsimp only
    by_cases h : c ∈ cs
    · rw [if_pos h, if_pos h]
      cases (ks.zip vs).lookup f with
      | none => exact ⟨fun h => h.elim, fun ⟨_, h, _⟩ => nomatch h⟩
      | some v => exact ⟨fun h => ⟨v, rfl, h⟩, fun ⟨w, e, h⟩ => by cases e; exact h⟩
    · rw [if_neg h, if_neg h]
      exact ⟨fun h => h.elim, fun ⟨_, h, _⟩ => nomatch h⟩
theorem ok_fld {cs : List Str} {f : Str} {d v : PV} (h : fldV cs f s d = some v) : Okx E (fldM cs f d) s Q ↔ Q v s := by
  rw [ok_fldM]
  exact ⟨fun ⟨w, e, q⟩ => by rw [h] at e; cases e; exact q, fun q => ⟨v, h, q⟩⟩
def conV (cs : List Str) (f : Str) (s : S) (d : PV) : Prop := match insOf s d with
  | some (c, ks, vs) => c ∈ cs ∧ (ks.zip vs).lookup f = none
  | none => False
theorem ok_conM {cs : List Str} {f : Str} {k : Int} {d : PV} : Okx E (conM cs f k d) s Q ↔ conV cs f s d ∧ Q (.int k) s := by
  unfold Okx conM conV
  cases insOf s d with
  | none => exact ⟨fun h => h.elim, fun h => h.1⟩
  | some t =>
    obtain ⟨c, ks, vs⟩ := t
    dsimp only
    by_cases h : c ∈ cs ∧ (ks.zip vs).lookup f = none
    · rw [if_pos h]
      exact ⟨fun q => ⟨h, q⟩, fun q => q.2⟩
    · rw [if_neg h]
      exact ⟨fun q => q.elim, fun q => h q.1⟩
def fputK (cs : List Str) (f : Str) (v : PV) (s : S) (Q : Fl → S → Prop) : PV → Prop
  | .hnd n => match s.sto[n]? with
    | some (.ins c ks vs) => (c ∈ cs ∧ ks.length < 1000) ∧ Q .nx ⟨s.env, s.sto.set n (.ins c (putKV f v ks vs).1 (putKV f v ks vs).2)⟩
    | _ => False
  | _ => False
theorem ok_fputM {cs : List Str} {f : Str} {cd cv : M PV} : Okx E (fputM cs f cd cv) s QF ↔ Okx E cv s (fun v s1 => Okx E cd s1 (fun d s2 => fputK cs f v s2 QF d)) := by
  unfold fputM
  rw [ok_bnd]
  have key : ∀ (v d : PV) (s : S), Okx E (fun s : S => match d with
      | .hnd n => match s.sto[n]? with
        | some (.ins c ks vs) => if c ∈ cs ∧ ks.length < 1000 then Res.ok Fl.nx { s with sto := s.sto.set n (.ins c (putKV f v ks vs).1 (putKV f v ks vs).2) } else .stk
        | _ => .stk
      | _ => .stk) s QF ↔ fputK cs f v s QF d := fun v d s => by
    unfold Okx fputK
    dsimp only
    cases d <;> try exact Iff.rfl
    rename_i n
    dsimp only
    cases s.sto[n]? with
    | none => exact Iff.rfl
    | some mo =>
      cases mo with
      | ins c ks vs =>
        dsimp only
        by_cases h : c ∈ cs ∧ ks.length < 1000
        · rw [if_pos h]; exact ⟨fun q => ⟨h, q⟩, fun q => q.2⟩
        · rw [if_neg h]; exact ⟨fun q => q.elim, fun q => h q.1⟩
      | dic => exact Iff.rfl
      | own => exact Iff.rfl
      | dtt => exact Iff.rfl
      | gone => exact Iff.rfl
  exact ⟨fun h => h.imp fun v s1 q => (ok_bnd.mp q).imp fun a s2 q => (key v a s2).mp q, fun h => h.imp fun v s1 q => ok_bnd.mpr (q.imp fun a s2 q => (key v a s2).mpr q)⟩
/-! an instance while it is made: the last two of the store -/
abbrev mkS (st : List MO) (c : Str) (ks : List Str) (vs : List PV) : List MO := st ++ [.ins c ks vs, .own st.length]
theorem mkS_get {c : Str} {ks : List Str} {vs : List PV} : (st ++ [MO.ins c ks vs, .own st.length])[st.length]? = some (.ins c ks vs) := by simp
theorem mkS_set {c : Str} {ks : List Str} {vs : List PV} {o : MO} : (st ++ [MO.ins c ks vs, .own st.length]).set st.length o = st ++ [o, .own st.length] := by simp
theorem fputK_new {cs : List Str} {f c : Str} {ks : List Str} {vs : List PV} {v : PV} : fputK cs f v ⟨env, mkS st c ks vs⟩ QF (.hnd st.length) ↔ (c ∈ cs ∧ ks.length < 1000) ∧ QF .nx ⟨env, mkS st c (putKV f v ks vs).1 (putKV f v ks vs).2⟩ := by
  unfold fputK
  simp only [mkS_get, mkS_set]
theorem conV_new {cs : List Str} {f c : Str} {ks : List Str} {vs : List PV} : conV cs f ⟨env, mkS st c ks vs⟩ (.hnd st.length) ↔ c ∈ cs ∧ (ks.zip vs).lookup f = none := by
  unfold conV insOf
  simp only [mkS_get]
theorem insOf_new {c : Str} {ks : List Str} {vs : List PV} : insOf ⟨env, mkS st c ks vs⟩ (.hnd st.length) = some (c, ks, vs) := by
  unfold insOf
  simp only [mkS_get]
theorem insOf_obj {c : Str} {ks : List Str} {vs : List PV} : insOf s (.obj c ks vs) = some (c, ks, vs) := rfl
/-! ### an instance made -/
def makeD (c : Str) (mf : Fn) (n : Nat) (ds : List PV) : M PV := fun s => match mf n (.hnd s.sto.length :: ds) (s.sto ++ [.ins c [] [], .own s.sto.length]) with
  | .ok .non st' => (match st'[s.sto.length]?, st'[s.sto.length + 1]? with
    | some (.ins c' ks vs), some (.own j) => if j = s.sto.length then .ok (.obj c' ks vs) { s with sto := (st'.set s.sto.length .gone).set (s.sto.length + 1) .gone } else .stk
    | _, _ => .stk)
  | .exc e st' => .exc e { s with sto := st' }
  | _ => .stk
theorem ok_makeM {c : Str} : Okx E (makeM c m n ra) s Q ↔ Okx E ra s (fun ds s1 => Okx E (makeD c m n ds) s1 Q) := by
  unfold makeM
  exact ok_bnd
theorem ok_made {c c' : Str} {ks : List Str} {vs : List PV} (h : m n (.hnd st.length :: ds) (mkS st c [] []) = .ok .non (mkS st c' ks vs)) : Okx E (makeD c m n ds) ⟨env, st⟩ Q ↔ Q (.obj c' ks vs) ⟨env, st ++ [.gone, .gone]⟩ := by
  have e : makeD c m n ds ⟨env, st⟩ = .ok (.obj c' ks vs) ⟨env, st ++ [.gone, .gone]⟩ := by
    unfold makeD
    dsimp only
    rw [h]
    have e2 : (st ++ [MO.ins c' ks vs, .own st.length])[st.length + 1]? = some (.own st.length) := by
      rw [List.getElem?_append_right (by omega)]
      simp
    have e3 : (st ++ [MO.gone, .own st.length]).set (st.length + 1) .gone = st ++ [.gone, .gone] := by
      rw [List.set_append_right _ _ (by omega)]
      simp
    simp only [mkS_get, e2, mkS_set, e3, if_true]
  unfold Okx
  rw [e]
/-! ### methods, instances called, super() -/
def methD (tab : List (Str × Fn)) (n : Nat) (m : Str) (r : M (List PV)) (d : PV) : M PV := fun s => match insOf s d with
  | some (c, ks, vs) => if (ks.zip vs).lookup m = none then (match tab.lookup c with
    | some f => bnd r (fun ds => runM f n (d :: ds)) s
    | none => .stk) else .stk
  | none => .stk
theorem ok_methM {tab : List (Str × Fn)} {mn : Str} : Okx E (methM tab n mn ca ra) s Q ↔ Okx E ca s (fun d s1 => Okx E (methD tab n mn ra d) s1 Q) := ok_bnd
theorem methD_obj {tab : List (Str × Fn)} {mn c : Str} {ks : List Str} {vs : List PV} (hf : (ks.zip vs).lookup mn = none) (ht : tab.lookup c = some m) : methD tab n mn ra (.obj c ks vs) = bnd ra (fun ds => runM m n (.obj c ks vs :: ds)) := by
  funext s
  unfold methD
  simp only [insOf_obj, hf, ht, if_true]
def insD (tab : List (Str × Fn)) (n : Nat) (r : M (List PV)) (d : PV) : M PV := fun s => match insOf s d with
  | some (c, _, _) => (match tab.lookup c with
    | some f => bnd r (fun ds s2 => match insOf s2 d with
      | some (c2, _, _) => if c2 = c then runM f n (d :: ds) s2 else .stk
      | none => .stk) s
    | none => .stk)
  | none => .stk
theorem ok_insM {tab : List (Str × Fn)} : Okx E (insM tab n ca ra) s Q ↔ Okx E ca s (fun d s1 => Okx E (insD tab n ra d) s1 Q) := ok_bnd
theorem insD_obj {tab : List (Str × Fn)} {c : Str} {ks : List Str} {vs : List PV} (ht : tab.lookup c = some m) : insD tab n ra (.obj c ks vs) = bnd ra (fun ds => runM m n (.obj c ks vs :: ds)) := by
  funext s
  unfold insD
  simp only [insOf_obj, ht, if_true]
theorem propM_obj {tab : List (Str × Fn)} {c : Str} {ks : List Str} {vs : List PV} {r : PV} (ht : tab.lookup c = some m) (hm : m n [.obj c ks vs] s.sto = .ok r s.sto) : Okx E (propM tab n (.obj c ks vs)) s Q ↔ Q r s := by
  have e : propM tab n (.obj c ks vs) s = .ok r s := by
    unfold propM
    simp only [insOf_obj, ht, hm]
  unfold Okx
  rw [e]
theorem ok_sup {tab : List (Str × Fn)} {d : PV} {c : Str} {ks : List Str} {vs : List PV} (h0 : env[0]? = some (some (.val d))) (hi : insOf ⟨env, st⟩ d = some (c, ks, vs)) (ht : tab.lookup c = some m) : Okx E (supM tab n ra) ⟨env, st⟩ Q ↔ Okx E ra ⟨env, st⟩ (fun ds s1 => Okx E (runM m n (d :: ds)) s1 Q) := by
  have e : supM tab n ra ⟨env, st⟩ = bnd ra (fun ds => runM m n (d :: ds)) ⟨env, st⟩ := by
    unfold supM
    simp only [h0, hi, ht]
  rw [← ok_bnd]
  unfold Okx
  rw [e]
/-! ### exceptions -/
theorem ok_raise {c f : Str} : Okx E (raiseM c f ca) s QF ↔ Okx E ca s (fun d s1 => E (.obj c [f] [d]) s1) := by
  unfold raiseM
  rw [ok_bnd]
  exact Iff.rfl
end
end Dn
/-! Nu: numbers as texts; equal data. -/
namespace Dn
open PySem
/-! equal data -/
/-! items of written tuples -/
theorem ix20 {a b : PV} {R : PV → Prop} : (∃ v, L2.atI [a, b] 0 = some v ∧ R v) ↔ R a := ⟨fun ⟨v, e, h⟩ => by cases e; exact h, fun h => ⟨a, rfl, h⟩⟩
theorem ix21 {a b : PV} {R : PV → Prop} : (∃ v, L2.atI [a, b] 1 = some v ∧ R v) ↔ R b := ⟨fun ⟨v, e, h⟩ => by cases e; exact h, fun h => ⟨b, rfl, h⟩⟩
/-! new answers -/
section
variable {s : S} {Q : PV → S → Prop} {E : PV → S → Prop} {ca cb cv : M PV} {n i : Nat} {env : Env} {st : List MO}
theorem log_small {a : Int} (h : -1000000000000000000000000000000000000000000 ≤ a ∧ a ≤ 1000000000000000000000000000000000000000000) : a.natAbs.log2 < 1920 :=
  Nat.lt_of_lt_of_le (log_lt (p := 200) (Nat.lt_of_le_of_lt (show a.natAbs ≤ 1000000000000000000000000000000000000000000 by omega) (by decide)) (by decide)) (by decide)
def isoB (tab : List (Str × Bool)) (s : S) (d : PV) : Option Bool := match insOf s d with
  | some (c, _, _) => tab.lookup c
  | none => (tyS s d).map fun _ => false
theorem ok_iso {tab : List (Str × Bool)} {d : PV} : Okx E (isoM tab d) s Q ↔ ∃ b, isoB tab s d = some b ∧ Q (.bl b) s := by
  unfold Okx isoM isoB
  cases insOf s d with
  | some t =>
    obtain ⟨c, ks, vs⟩ := t
    dsimp only
    cases tab.lookup c with
    | none => exact ⟨fun h => h.elim, fun ⟨_, h, _⟩ => nomatch h⟩
    | some b => exact ⟨fun h => ⟨b, rfl, h⟩, fun ⟨_, e, h⟩ => by cases e; exact h⟩
  | none =>
    dsimp only
    cases tyS s d with
    | none => exact ⟨fun h => h.elim, fun ⟨_, h, _⟩ => nomatch h⟩
    | some t => exact ⟨fun h => ⟨false, rfl, h⟩, fun ⟨_, e, h⟩ => by cases e; exact h⟩
end
end Dn
/-! Pl7: kept exceptions answered; values of any kind. -/
namespace Dn
open PySem
section
variable {s : S} {Q : PV → S → Prop} {QF : Fl → S → Prop} {E : PV → S → Prop} {ca cb cv : M PV} {fa : M Fl} {i j : Nat} {env : Env} {st : List MO} {v : PV} {t : Str}
def keepK (tab : List (Str × Bool)) (i j : Nat) (E : PV → S → Prop) (Q : Fl → S → Prop) (e : PV) (s : S) : Prop := match e with
  | .obj c ks vs => (match tab.lookup c with
    | some true => (i < s.env.length ∧ j < s.env.length) ∧ Q .nx { s with env := (s.env.set j (some (.val (.exn c ks vs)))).set i none }
    | some false => E (.obj c ks vs) s
    | none => False)
  | _ => False
theorem ok_keep {tab : List (Str × Bool)} : Okx E (keepM tab i j fa) s QF ↔ Okx (keepK tab i j E QF) fa s QF := by
  unfold Okx keepM keepK
  cases h : fa s with
  | ok a s' => exact Iff.rfl
  | stk => exact Iff.rfl
  | exc e s' =>
    dsimp only
    cases e <;> try exact Iff.rfl
    rename_i c ks vs
    dsimp only
    cases tab.lookup c with
    | none => exact Iff.rfl
    | some b =>
      cases b
      · exact Iff.rfl
      · dsimp only
        by_cases hl : i < s'.env.length ∧ j < s'.env.length
        · rw [if_pos hl]
          exact ⟨fun h => ⟨hl, h⟩, fun h => h.2⟩
        · rw [if_neg hl]
          exact ⟨fun h => h.elim, fun h => (hl h.1).elim⟩
theorem ok_xfld {cs : List Str} {f c : Str} {ks : List Str} {vs : List PV} {w : PV} (h : c ∈ cs) (hl : (ks.zip vs).lookup f = some w) : Okx E (xfldM cs f (.exn c ks vs)) s Q ↔ Q w s := by
  unfold Okx xfldM
  dsimp only
  rw [if_pos h, hl]
theorem ok_ixE {tab : List (Str × Bool)} {c : Str} {ks : List Str} {vs : List PV} {b : Bool} (h : tab.lookup c = some b) : Okx E (ixM tab (.exn c ks vs)) s Q ↔ Q (.bl b) s := by
  unfold Okx ixM
  dsimp only
  rw [h]
theorem isNonB_exn {c : Str} {ks : List Str} {vs : List PV} : isNonB (.exn c ks vs) = false := rfl
/-! texts of values -/
theorem ok_reprR (h : reprP v = some (.str t)) : Okx E (lft (reprP v)) s Q ↔ Q (.str t) s := by
  rw [ok_lft, h]
  simp
def Rp (v : PV) : Prop := ∃ t, reprP v = some (.str t)
theorem rp_data {d : PyData} (hv : v.toD = some d) (h1 : d.showable = true) (h2 : d.hasDict = false) (h3 : d.depth ≤ 64) (h4 : d.shown.length ≤ sizeLine) : Rp v := by
  have h := (ok_reprD (v := v) (E := fun _ _ => False) (s := ⟨[], []⟩) (Q := fun w _ => ∃ t, w = .str t) hv h1 h2 h3 h4).mpr ⟨_, rfl⟩
  obtain ⟨w, e, x, rfl⟩ := ok_lft.mp h
  exact ⟨x, e⟩
theorem rp_gd {n w : Nat} (h : Gd n w v) (hn : n ≤ 60) (hw : w ≤ 1048576) : Rp v := by
  obtain ⟨d, e, g⟩ := h
  exact rp_data e g.show' (PyData.hasDict_of_canLay d g.lay) (Nat.le_trans g.dep (by omega)) (PyData.shown_fits (B := 13) (by decide) (by decide) (PyData.leavesShort_of_canLay0 13 d g.lay g.short) (Nat.le_trans g.wt hw))
theorem rp_int {a : Int} (h : -1000000000000000000000000000000000000000000 ≤ a ∧ a ≤ 1000000000000000000000000000000000000000000) : Rp (.int a) := by
  refine rp_data (d := .int a) (by rw [PV.toD]) (by rw [PyData.showable, decide_eq_true_eq]; exact log_small h) (by rw [PyData.hasDict]) (by rw [PyData.depth]; decide) ?_
  have e := PySem.int_text_length_le10 (a := a) (k := 60) (by decide) (Nat.lt_of_le_of_lt (show a.natAbs ≤ 1000000000000000000000000000000000000000000 by omega) (by decide))
  show (Str.ofString (toString a)).length ≤ sizeLine
  rw [PySem.ofString_length]
  exact Nat.le_trans e (by rw [sizeLine_eq]; decide)
theorem rp_dic {kvs : List (Str × Int)} (h1 : (dicD kvs).showable = true) (h2 : (dicD kvs).depth ≤ 64) (h3 : (dicD kvs).shown.length ≤ sizeLine) : Rp (.dic kvs) := ⟨(dicD kvs).shown, by
  unfold reprP
  dsimp only
  rw [if_pos ⟨⟨h1, h2⟩, h3⟩]⟩
/-- no integer, of a kind that isinstance knows -/
def NotI : PV → Prop
  | .non => True
  | .bl _ => True
  | .str _ => True
  | .tup _ => True
  | .lst _ => True
  | .dic _ => True
  | _ => False
theorem isi_int_dic {kvs : List (Str × Int)} : Okx E (lft (isiP "int" (.dic kvs))) s Q ↔ Q (.bl false) s := isi_of rfl (by decide +kernel)
/-- what is asked of a value of any kind -/
def AnyP (v : PV) : Prop := (∃ a : Int, v = .int a ∧ -1000000000000000000000000000000000000000000 ≤ a ∧ a ≤ 1000000000000000000000000000000000000000000) ∨ (NotI v ∧ Rp v)
theorem AnyP.rp (h : AnyP v) : Rp v := by
  rcases h with ⟨a, rfl, h⟩ | h
  · exact rp_int h
  · exact h.2
end
end Dn
/-! Pl8: plain answers: pairs of names in a for, enumerate, stars, own operators, == []. -/
namespace Dn
open PySem
end Dn
/-! Pl9: plain answers: len of own instances. -/
namespace Dn
open PySem
/-! ### plain -/
end Dn
/-! Pt: plain answers of the rules of Tr1, Dt1 .. Dt5. -/
namespace Dn
open PySem
open L2 hiding bin
section
variable {E : PV → S → Prop} {EF : PV → List MO → Prop} {s : S} {Q : PV → S → Prop} {QL : List PV → S → Prop} {QF : Fl → S → Prop} {QB : Bool → S → Prop} {QK : List (L2.Key × PV) → S → Prop} {n i : Nat} {env : Env} {st : List MO} {ca cb cc cd ck cv : M PV} {tab : List (Str × Fn)} {xs : List PV} {v d a b : PV}
/-! ### a def's own handles dropped -/
theorem okF_fnF {np nn n : Nat} {body : Nat → M Fl} {ds : List PV} {Q : PV → List MO → Prop} (hl : ds.length = np)
    (h : Okx (fun e s => EF e s.sto) (body n) ⟨ds.map (fun d => some (SV.val d)) ++ List.replicate (nn - np) none, st⟩ (fun fl s => rtK Q s fl)) : OkFx EF (fnQ false np nn body n ds st) Q := okF_fn hl h
/-! a value that names no handle at all -/
/-! ### items -/
/-! ### a[b] -/
/-! ### a in b -/
/-! ### dicts -/
/-! ### sorted, min, len -/
/-! ### lists -/
/-! ### < of ints or texts -/
/-! ### instances made -/
end
end Dn
/-! So3: sorted of rows: what it answers. -/
namespace Dn
open PySem L2
end Dn
/-! So9: plain rules of So8. -/
namespace Dn
open PySem L2 ClX StX NdefX PySem.Spec PyProof.Rows
end Dn
/-! So13: plain rules of get with a default and of != of dicts. -/
namespace Dn
open PySem L2 ClX StX NdefX PySem.Spec PyProof.Rows
end Dn
/-! So16: plain rules of So14, So15. -/
namespace Dn
open PySem
open L2 hiding bin
section
variable {E : PV → S → Prop} {s : S} {Q : Fl → S → Prop} {QP : PV → S → Prop} {QL : List PV → S → Prop} {ca cc : M PV} {cb cd ce : M (List PV)} {i j k n : Nat} {env : Dn.Env} {st : List MO} {xs ys : List PV} {m : FnL}
theorem ok_slO {lo hi : M (Option Int)} : Okx E (slO ca lo hi) s QL ↔ Okx E ca s (fun d s1 => Okx E lo s1 (fun a s2 => Okx E hi s2 (fun b s3 => lstK (fun xs => QL (cutP xs a b) s3) d))) := by
  have key : ∀ (d : PV) (a b : Option Int) (s : S), Okx E (lft (match d with | .lst xs => some (cutP xs a b) | _ => none)) s QL ↔ lstK (fun xs => QL (cutP xs a b) s) d := fun d a b s => by
    rw [ok_lft]
    cases d with
    | lst xs => exact ⟨fun ⟨_, e, q⟩ => by cases e; exact q, fun q => ⟨_, rfl, q⟩⟩
    | _ => exact ⟨fun ⟨_, e, _⟩ => (by cases e), fun h => h.elim⟩
  unfold slO
  rw [ok_bnd]
  exact ⟨fun h => h.imp fun d s1 q => (ok_bnd.mp q).imp fun a s2 q => (ok_bnd.mp q).imp fun b s3 q => (key d a b s3).mp q, fun h => h.imp fun d s1 q => ok_bnd.mpr (q.imp fun a s2 q => ok_bnd.mpr (q.imp fun b s3 q => (key d a b s3).mpr q))⟩
def OkFOx (E : PV → List MO → Prop) (r : Res (List MO) (List PV)) (Q : List PV → List MO → Prop) : Prop := match r with
  | .ok d st => Q d st
  | .exc e st => E e st
  | .stk => False
theorem OkFOx.imp {EF : PV → List MO → Prop} {r : Res (List MO) (List PV)} {Q Q' : List PV → List MO → Prop} (h : OkFOx EF r Q) (f : ∀ d st, Q d st → Q' d st) : OkFOx EF r Q' := by
  cases r with
  | ok d st => exact f d st h
  | exc => exact h
  | stk => exact h
/-! ### three names at once -/
/-! ### extend, len of a set -/
end
end Dn
/-! So17: d.clear() (plain rules). -/
namespace Dn
open PySem
open L2 hiding bin
end Dn
set_option maxHeartbeats 4000000
/-! So18: list(range(n)); o.m( *e) of a method with a star parameter alone. -/
namespace Dn
open PySem L2 ClX StX NdefX PySem.Spec PyProof.Rows
end Dn
set_option maxHeartbeats 4000000
/-! So19: zip of two lists, or of two tuples, as a source. -/
namespace Dn
open PySem L2 ClX StX NdefX PySem.Spec PyProof.Rows
end Dn
namespace Lw
open PySem Dn PySem.Spec PyProof.Rows ClX StX NdefX
open L2 hiding bin
structure Zt (P : Program) (K : PySem.W.Frag) (mg : Str → Option Value) : Prop where
  b_list : mg "list" = none
  fn_law_pen : FnP K mg "_law_pen" s_law_pen ["_law_script"]
  b_range : mg "range" = none
  b_int : mg "int" = none
  b_len : mg "len" = none
  b_abs : mg "abs" = none
  fn_law_draw : FnP K mg "_law_draw" s_law_draw ["_law_pen_here", "_law_many"]
  fn_law_pick : FnP K mg "_law_pick" s_law_pick ["_law_pen_here", "_law_some"]
  fn_law_names : FnP K mg "_law_names" s_law_names ["_law_pen_here", "_law_many"]
  fn_law_digits : FnP K mg "_law_digits" s_law_digits ["_law_pen_here", "_law_many"]
  b_min : mg "min" = none
  fn_law_row : FnP K mg "_law_row" s_law_row ["_law_pen_here", "_law_label", "_law_start", "_law_end"]
  gs_ALPHABET : StrP mg "ALPHABET" "abcdefghijklmnopqrstuvwxyz"
  b_all : mg "all" = none
  gi_LETTERS : IntP mg "LETTERS" 8
  b_isinstance : mg "isinstance" = none
  b_str : mg "str" = none
  fn_is_name : FnP K mg "is_name" s_is_name ["value"]
  fn_need_name : FnP K mg "need_name" s_need_name ["value"]
  b_tuple : mg "tuple" = none
  b_bool : mg "bool" = none
  fk_is_integer_1_least_most : FnKP K mg "is_integer" s_is_integer ["value", "least", "most"] 1 ["least", "most"]
  ca_Office_RATE : CatP K mg "Office" "RATE" 9
  fn_is_rate : FnP K mg "is_rate" s_is_rate ["value"]
  ex_InvalidNumber : ExcP K mg "InvalidNumber" "InvalidNumber.__init__" "value" "value" s_InvalidNumber_init "ValueError" "ValueError.__new__" "ValueError.__init__" [.type "ValueError", .type "Exception", .type "BaseException", .type "object"]
  b_ValueError : mg "ValueError" = none
  fk_need_integer_1_least_most : FnKP K mg "need_integer" s_need_integer ["value", "least", "most"] 1 ["least", "most"]
  co_FEE : ConOk K "FEE" 20 ["Office", "CappedOffice"]
  co_LEAST : ConOk K "LEAST" 1000 ["Office", "CappedOffice"]
  fo_name : FldOk K "name" ["Office", "CappedOffice"]
  fo_own_ends : FldOk K "own_ends" ["Office", "CappedOffice"]
  fo_own_rate : FldOk K "own_rate" ["Office", "CappedOffice"]
  fo_own_fee : FldOk K "own_fee" ["Office", "CappedOffice"]
  fo_own_least : FldOk K "own_least" ["Office", "CappedOffice"]
  mk_Office_4_fee_least : MkP K mg "Office" "Office.__init__" s_Office_init ["self", "name", "source", "goal", "rate", "fee", "least"] 4 ["fee", "least"]
  su_CappedOffice_CappedOffice_init_5_fee_least : SupP K "CappedOffice" "CappedOffice" "__init__" "Office.__init__" s_Office_init ["self", "name", "source", "goal", "rate", "fee", "least"] 5 ["fee", "least"]
  co_MOST : ConOk K "MOST" 1000000 ["CappedOffice"]
  fo_own_most : FldOk K "own_most" ["CappedOffice"]
  mk_CappedOffice_4_most_fee_least : MkS P K mg "CappedOffice" "CappedOffice.__init__" "CappedOffice" s_CappedOffice_init ["self", "name", "source", "goal", "rate", "most", "fee", "least"] 4 ["most", "fee", "least"]
  fn_law_made : FnP K mg "_law_made" s_law_made ["_law_row_here"]
  fn_law_any : FnP K mg "_law_any" s_law_any ["_law_pen_here"]
  b_max : mg "max" = none
  fn_law_amount : FnP K mg "_law_amount" s_law_amount ["_law_pen_here", "_law_row_here"]
  fn_law_is_integer : FnP K mg "_law_is_integer" s_law_is_integer ["_law_value", "_law_low", "_law_high"]
  b_repr : mg "repr" = none
  fn_law_result : FnP K mg "_law_result" s_law_result ["_law_row_here", "_law_number"]
  fn_law_due : FnP K mg "_law_due" s_law_due ["_law_row_here", "_law_value"]
  kp_Closed_InvalidNumber : ∃ C0, ∃ C1, mg "Closed" = some (.ref C0) ∧ mg "InvalidNumber" = some (.ref C1) ∧ KpTab K (fun cls => PySem.W.exmAny K cls [.ref C0, .ref C1]) [("Closed", true), ("InvalidNumber", true)]
  ix_Closed : ∃ D0, mg "Closed" = some (.ref D0) ∧ IxTab K [.ref D0] [("Closed", true), ("InvalidNumber", false)]
  ix_InvalidNumber_ValueError : ∃ D0, mg "InvalidNumber" = some (.ref D0) ∧ IxTab K [.ref D0, .type "ValueError"] [("Closed", false), ("InvalidNumber", true)]
  ix_RuntimeError : IxTab K [.type "RuntimeError"] [("Closed", true), ("InvalidNumber", false)]
  b_RuntimeError : mg "RuntimeError" = none
  xf_name : XFldOk K "name" ["Closed"]
  ix_ValueError : IxTab K [.type "ValueError"] [("Closed", false), ("InvalidNumber", true)]
  xf_value : XFldOk K "value" ["InvalidNumber"]
  gi_COINS : IntP mg "COINS" 1000000000000000000000000000000
  fn_need_amount : FnP K mg "need_amount" s_need_amount ["value"]
  su_CappedOffice_CappedOffice_result_2 : SupP K "CappedOffice" "CappedOffice" "result" "Office.result" s_Office_result ["self", "coins"] 2 []
  me_CappedOffice_result_2 : MthS P K mg "CappedOffice" "result" "CappedOffice.result" "CappedOffice" s_CappedOffice_result ["self", "coins"] 2 []
  me_Office_result_2 : MthP K "Office" "result" "Office.result" s_Office_result ["self", "coins"] 2 []
  ex_Closed : ExcP K mg "Closed" "Closed.__init__" "name" "name" s_Closed_init "RuntimeError" "RuntimeError.__new__" "RuntimeError.__init__" [.type "RuntimeError", .type "Exception", .type "BaseException", .type "object"]
  in_CappedOffice_2 : InsP K "CappedOffice" "Office.__call__" s_Office_call ["self", "amount"] 2
  in_Office_2 : InsP K "Office" "Office.__call__" s_Office_call ["self", "amount"] 2
  fn_law_told : FnP K mg "_law_told" s_law_told ["_law_call"]
  me_CappedOffice_is_open_2 : MthP K "CappedOffice" "is_open" "Office.is_open" s_Office_is_open ["self", "amount"] 2 []
  me_Office_is_open_2 : MthP K "Office" "is_open" "Office.is_open" s_Office_is_open ["self", "amount"] 2 []
  pp_CappedOffice_most : PrpP K "CappedOffice" "most" "CappedOffice.most" s_CappedOffice_most
  pp_Office_most : PrpP K "Office" "most" "Office.most" s_Office_most
  pp_CappedOffice_least : PrpP K "CappedOffice" "least" "Office.least" s_Office_least
  pp_Office_least : PrpP K "Office" "least" "Office.least" s_Office_least
  pp_CappedOffice_fee : PrpP K "CappedOffice" "fee" "Office.fee" s_Office_fee
  pp_Office_fee : PrpP K "Office" "fee" "Office.fee" s_Office_fee
  pp_CappedOffice_rate : PrpP K "CappedOffice" "rate" "Office.rate" s_Office_rate
  pp_Office_rate : PrpP K "Office" "rate" "Office.rate" s_Office_rate
  pp_CappedOffice_goal : PrpP K "CappedOffice" "goal" "Office.goal" s_Office_goal
  pp_Office_goal : PrpP K "Office" "goal" "Office.goal" s_Office_goal
  pp_CappedOffice_source : PrpP K "CappedOffice" "source" "Office.source" s_Office_source
  pp_Office_source : PrpP K "Office" "source" "Office.source" s_Office_source
  is_CappedOffice : ∃ D, mg "CappedOffice" = some (.ref D) ∧ IsoTab K D [("Office", false), ("CappedOffice", true)]
  fn_law_values : FnP K mg "_law_values" s_law_values ["_law_office"]
section
variable {P : Program} {w : World} {K : PySem.W.Frag} {mg : Str → Option Value} {base : Heap}
/-! ### _law_pen: 0 _law_script -/
theorem sc_law_pen : FnScope ["_law_script"] ["_law_script"] (defScope s_law_pen) := ⟨rfl, rfl, rfl, by decide +kernel, rfl, by decide +kernel, by decide +kernel⟩
noncomputable def b_law_pen (n : Nat) : M Fl :=
  (retM (dispM (("cells", (lstM (bnd (slM (var 0) parN (parS (ret (.int 63)))) fList))) :: ("place", (ret (.int 0))) :: ("rest", (ret (.int 0))) :: [])))
noncomputable def m_law_pen : Fn := fnQ false 1 1 b_law_pen
set_option maxHeartbeats 4000000 in
theorem pr_law_pen (Z : Zt P K mg) : Pr P w K mg base 1 "_law_pen" "_law_pen" s_law_pen ["_law_script"] m_law_pen :=
  prF (pr_mk sc_law_pen (by decide) fun f cdv A outer s H E n hgd hr tk ow => by
    have nd := sc_law_pen.nd
    have hu := roomU hr
    exact (bone (sret (xdisp (kC (xo (olist Z.b_list (xsl (xv 0) qN (qS xint)))) (kC xint (kC xint kN)))))))
/-! ### _law_draw: 0 _law_pen_here, 1 _law_many, 2 _law_digit, 3 _law_place, 4 _law_cell, 5 _law_primes, 6 _law_mix -/
theorem sc_law_draw : FnScope ["_law_pen_here", "_law_many", "_law_digit", "_law_place", "_law_cell", "_law_primes", "_law_mix"] ["_law_pen_here", "_law_many"] (defScope s_law_draw) := ⟨rfl, rfl, rfl, by decide +kernel, rfl, by decide +kernel, by decide +kernel⟩
noncomputable def b_law_draw (n : Nat) : M Fl :=
  (seqM (ifM (asB (bin (bin (var 0) (ret (.str "rest")) hgetP) (ret (.int 0)) opGt)) (seqM (asgM 2 (bin (bnd (bin (var 0) (ret (.str "rest")) hgetP) fInt) (var 1) opMod))
    (seqM (hputM (var 0) (ret (.str "rest")) (bin (bin (var 0) (ret (.str "rest")) hgetP) (var 1) opDiv))
    (retM (var 2)))) skipM)
    (seqM (asgM 3 (bin (var 0) (ret (.str "place")) hgetP))
    (seqM (hputM (var 0) (ret (.str "place")) (bin (var 3) (ret (.int 1)) opAdd))
    (seqM (asgM 4 (bin (bin (ret (.int 43)) (var 3) opMul) (ret (.int 19)) opAdd))
    (seqM (ifM (asB (bin (bin (var 0) (ret (.str "cells")) hgetP) (lstM (fits argN)) opNe)) (asgM 4 (bin (bin (var 0) (ret (.str "cells")) hgetP) (bin (bnd (var 3) fInt) (bnd (bin (var 0) (ret (.str "cells")) hgetP) fLen) opMod) opIx)) skipM)
    (seqM (ifM (andT (asB (bin (var 3) (bnd (bin (var 0) (ret (.str "cells")) hgetP) fLen) opLt)) (asB (bin (bnd (var 4) fAbs) (bin (ret (.int 10)) (ret (.int 18)) opPow) opGe))) (seqM (hputM (var 0) (ret (.str "rest")) (bin (bin (bnd (var 4) fAbs) (bin (ret (.int 10)) (ret (.int 18)) opPow) opSub) (var 1) opDiv))
    (retM (bin (bin (bnd (var 4) fAbs) (bin (ret (.int 10)) (ret (.int 18)) opPow) opSub) (var 1) opMod))) skipM)
    (seqM (asgM 5 (lstM (fits (argC (ret (.int 2147483647)) (argC (ret (.int 2147483629)) (argC (ret (.int 2147483587)) (argC (ret (.int 2147483579)) (argC (ret (.int 2147483563)) (argC (ret (.int 2147483549)) (argC (ret (.int 2147483543)) argN))))))))))
    (seqM (asgM 6 (bin (bin (bin (bnd (var 4) fInt) (bin (var 5) (bin (bnd (var 3) fInt) (ret (.int 7)) opMod) opIx) opMod) (ret (.int 48271)) opMul) (bin (bin (ret (.int 40961)) (var 3) opMul) (var 3) opMul) opAdd))
    (seqM (asgM 6 (bin (bnd (bin (bin (var 6) (bin (ret (.int 12289)) (var 3) opMul) opAdd) (ret (.int 37)) opAdd) fInt) (bin (var 5) (bin (bnd (var 3) fInt) (ret (.int 7)) opMod) opIx) opMod))
    (seqM (asgM 6 (bin (bnd (bin (bin (bin (bin (var 6) (var 6) opMul) (bin (ret (.int 69621)) (var 6) opMul) opAdd) (bin (ret (.int 3)) (var 3) opMul) opAdd) (ret (.int 1)) opAdd) fInt) (bin (var 5) (bin (bnd (bin (var 3) (ret (.int 3)) opAdd) fInt) (ret (.int 7)) opMod) opIx) opMod))
    (retM (bin (bnd (bin (bin (bnd (bin (var 6) (bin (var 6) (ret (.int 16811)) opAdd) opMul) fInt) (bin (var 5) (bin (bnd (bin (var 3) (ret (.int 5)) opAdd) fInt) (ret (.int 7)) opMod) opIx) opMod) (ret (.int 64)) opDiv) fInt) (var 1) opMod))))))))))))
noncomputable def m_law_draw : Fn := fnQ false 2 7 b_law_draw
set_option maxHeartbeats 4000000 in
theorem pr_law_draw (Z : Zt P K mg) : Pr P w K mg base 1 "_law_draw" "_law_draw" s_law_draw ["_law_pen_here", "_law_many"] m_law_draw :=
  prF (pr_mk sc_law_draw (by decide) fun f cdv A outer s H E n hgd hr tk ow => by
    have nd := sc_law_draw.nd
    have hu := roomU hr
    exact (bcons (sif (tcmp k_gt (xhget hu (xv 0) xstr) xint) (bcons (sset 2 nd (xmod (xtoint Z.b_int (xhget hu (xv 0) xstr)) (xv 1)))
    (bcons (shput hu (xv 0) xstr (xfdiv (xhget hu (xv 0) xstr) (xv 1)))
    (bone (sret (xv 2))))) bnil)
    (bcons (sset 3 nd (xhget hu (xv 0) xstr))
    (bcons (shput hu (xv 0) xstr (xadd (xv 3) xint))
    (bcons (sset 4 nd (xadd (xmul xint (xv 3)) xint))
    (bcons (sif (tcmp (k_ne hu) (xhget hu (xv 0) xstr) (xo (olst anil))) (bone (sset 4 nd (xix (xhget hu (xv 0) xstr) (xmod (xtoint Z.b_int (xv 3)) (xlen Z.b_len (xhget hu (xv 0) xstr)))))) bnil)
    (bcons (sif (PW.pt (wand (tcmp k_lt (xv 3) (xlen Z.b_len (xhget hu (xv 0) xstr))) (pw_and1 (tcmp k_ge (xabs Z.b_abs (xv 4)) (xpow xint xint))))) (bcons (shput hu (xv 0) xstr (xfdiv (xsub (xabs Z.b_abs (xv 4)) (xpow xint xint)) (xv 1)))
    (bone (sret (xmod (xsub (xabs Z.b_abs (xv 4)) (xpow xint xint)) (xv 1))))) bnil)
    (bcons (sset 5 nd (xo (olst (acons xint (acons xint (acons xint (acons xint (acons xint (acons xint (acons xint anil))))))))))
    (bcons (sset 6 nd (xadd (xmul (xmod (xtoint Z.b_int (xv 4)) (xix (xv 5) (xmod (xtoint Z.b_int (xv 3)) xint))) xint) (xmul (xmul xint (xv 3)) (xv 3))))
    (bcons (sset 6 nd (xmod (xtoint Z.b_int (xadd (xadd (xv 6) (xmul xint (xv 3))) xint)) (xix (xv 5) (xmod (xtoint Z.b_int (xv 3)) xint))))
    (bcons (sset 6 nd (xmod (xtoint Z.b_int (xadd (xadd (xadd (xmul (xv 6) (xv 6)) (xmul xint (xv 6))) (xmul xint (xv 3))) xint)) (xix (xv 5) (xmod (xtoint Z.b_int (xadd (xv 3) xint)) xint))))
    (bone (sret (xmod (xtoint Z.b_int (xfdiv (xmod (xtoint Z.b_int (xmul (xv 6) (xadd (xv 6) xint))) (xix (xv 5) (xmod (xtoint Z.b_int (xadd (xv 3) xint)) xint))) xint)) (xv 1)))))))))))))))
/-! ### _law_pick: 0 _law_pen_here, 1 _law_some -/
theorem sc_law_pick : FnScope ["_law_pen_here", "_law_some"] ["_law_pen_here", "_law_some"] (defScope s_law_pick) := ⟨rfl, rfl, rfl, by decide +kernel, rfl, by decide +kernel, by decide +kernel⟩
noncomputable def b_law_pick (n : Nat) : M Fl :=
  (retM (bin (var 1) (callM m_law_draw n (argC (var 0) (argC (bnd (var 1) fLen) argN))) opIx))
noncomputable def m_law_pick : Fn := fnQ false 2 2 b_law_pick
set_option maxHeartbeats 4000000 in
theorem pr_law_pick (Z : Zt P K mg) : Pr P w K mg base 2 "_law_pick" "_law_pick" s_law_pick ["_law_pen_here", "_law_some"] m_law_pick :=
  prF (pr_mk sc_law_pick (by decide) fun f cdv A outer s H E n hgd hr tk ow => by
    have nd := sc_law_pick.nd
    have hu := roomU hr
    have D_law_draw := df_row (pr_law_draw (P := P) (w := w) (base := base) Z) Z.fn_law_draw rfl
    exact (bone (sret (xix (xv 1) (xdef n D_law_draw hgd hr tk (by decide) (acons (xv 0) (acons (xlen Z.b_len (xv 1)) anil)))))))
/-! ### _law_names: 0 _law_pen_here, 1 _law_many, 2 _law_alphabet, 3 _law_stem, 4 _law_at, 5 _law_first, 6 _law_cut, 7 _law_step, 8 _law_found, 9 _law_k, 10 _law_tail, 11 _law_letter, 12 _law_place -/
theorem sc_law_names : FnScope ["_law_pen_here", "_law_many", "_law_alphabet", "_law_stem", "_law_at", "_law_first", "_law_cut", "_law_step", "_law_found", "_law_k", "_law_tail", "_law_letter", "_law_place"] ["_law_pen_here", "_law_many"] (defScope s_law_names) := ⟨rfl, rfl, rfl, by decide +kernel, rfl, by decide +kernel, by decide +kernel⟩
noncomputable def b_law_names (n : Nat) : M Fl :=
  (seqM (asgM 2 (ret (.str "abcdefghijklmnopqrstuvwxyz")))
    (seqM (asgM 3 (joinM (ret (.str "")) (lstM (lcM (rngM (callM m_law_draw n (argC (var 0) (argC (ret (.int 8)) argN)))) 12 [12] (ret true) (callM m_law_pick n (argC (var 0) (argC (var 2) argN)))))))
    (seqM (par3 4 5 6 (callM m_law_draw n (argC (var 0) (argC (bin (bnd (var 3) fLen) (ret (.int 1)) opAdd) argN))) (callM m_law_draw n (argC (var 0) (argC (ret (.int 26)) argN))) (callM m_law_draw n (argC (var 0) (argC (ret (.int 3)) argN))))
    (seqM (par2VO 7 8 (callM m_law_pick n (argC (var 0) (argC (lstM (fits (argC (ret (.int 1)) (argC (ret (.int 3)) (argC (ret (.int 5)) (argC (ret (.int 7)) (argC (ret (.int 9)) (argC (ret (.int 11)) (argC (ret (.int 15)) (argC (ret (.int 17)) (argC (ret (.int 19)) (argC (ret (.int 21)) (argC (ret (.int 23)) (argC (ret (.int 25)) argN)))))))))))))) argN))) (fits argN))
    (seqM (loopM (rngM (var 1)) 9 (seqM (asgM 10 (iteT (asB (bin (var 6) (ret (.int 2)) opLt)) (slM (var 3) (parS (var 4)) parN) (slM (slM (var 3) (parS (var 4)) parN) parN (parS (bin (bnd (var 9) fInt) (ret (.int 3)) opMod)))))
    (seqM (asgM 11 (bin (var 2) (bin (bnd (bin (var 5) (bin (var 7) (var 9) opMul) opAdd) fInt) (ret (.int 26)) opMod) opIx))
    (dropM (appM 8 (bin (bin (slM (var 3) parN (parS (var 4))) (var 11) opAdd) (var 10) opAdd))))))
    (retM (var 8)))))))
noncomputable def m_law_names : Fn := fnQ false 2 13 b_law_names
set_option maxHeartbeats 4000000 in
theorem pr_law_names (Z : Zt P K mg) : Pr P w K mg base 3 "_law_names" "_law_names" s_law_names ["_law_pen_here", "_law_many"] m_law_names :=
  prF (pr_mk sc_law_names (by decide) fun f cdv A outer s H E n hgd hr tk ow => by
    have nd := sc_law_names.nd
    have hu := roomU hr
    have D_law_draw := df_row (pr_law_draw (P := P) (w := w) (base := base) Z) Z.fn_law_draw rfl
    have D_law_pick := df_row (pr_law_pick (P := P) (w := w) (base := base) Z) Z.fn_law_pick rfl
    exact (bcons (sset 2 nd xstr)
    (bcons (sset 3 nd (xjoin xstr (xo (olc 12 (own := [("_law_place", 12)]) rfl nd (irng Z.b_range (xdef n D_law_draw hgd hr tk (by decide) (acons (xv 0) (acons xint anil)))) src_rng (blkOk_by (by kernel_rfl)) (by decide) (fun _ _ _ _ _ => pg_name (i := 12) nd rfl (by first | exact Or.inl rfl | exact Or.inr rfl)) (fun _ _ _ _ _ => tsN) (fun _ _ _ _ _ => (xdef n D_law_pick hgd hr takesF (by decide) (acons (xv 0) (acons (xv 2) anil))))))))
    (bcons (spar3 4 5 6 rfl nd (xdef n D_law_draw hgd hr tk (by decide) (acons (xv 0) (acons (xadd (xlen Z.b_len (xv 3)) xint) anil))) (xdef n D_law_draw hgd hr tk (by decide) (acons (xv 0) (acons xint anil))) (xdef n D_law_draw hgd hr tk (by decide) (acons (xv 0) (acons xint anil))))
    (bcons (spar2VO 7 8 rfl nd (xdef n D_law_pick hgd hr tk (by decide) (acons (xv 0) (acons (xo (olst (acons xint (acons xint (acons xint (acons xint (acons xint (acons xint (acons xint (acons xint (acons xint (acons xint (acons xint (acons xint anil)))))))))))))) anil))) (olst anil))
    (bcons (sfor 9 rfl nd ow (irng Z.b_range (xv 1)) src_rng (bcons (sset 10 nd (xif (tcmp k_lt (xv 6) xint) (xsl (xv 3) (qS (xv 4)) qN) (xsl (xsl (xv 3) (qS (xv 4)) qN) qN (qS (xmod (xtoint Z.b_int (xv 9)) xint)))))
    (bcons (sset 11 nd (xix (xv 2) (xmod (xtoint Z.b_int (xadd (xv 5) (xmul (xv 7) (xv 9)))) xint)))
    (bone (sexpr (xapp 8 (xadd (xadd (xsl (xv 3) qN (qS (xv 4))) (xv 11)) (xv 10))))))))
    (bone (sret (xv 8)))))))))
/-! ### _law_digits: 0 _law_pen_here, 1 _law_many, 2 _law_found, 3 _law_place -/
theorem sc_law_digits : FnScope ["_law_pen_here", "_law_many", "_law_found", "_law_place"] ["_law_pen_here", "_law_many"] (defScope s_law_digits) := ⟨rfl, rfl, rfl, by decide +kernel, rfl, by decide +kernel, by decide +kernel⟩
noncomputable def b_law_digits (n : Nat) : M Fl :=
  (seqM (asgM 2 (ret (.int 0)))
    (seqM (loopM (rngM (var 1)) 3 (asgM 2 (bin (bin (ret (.int 10)) (var 2) opMul) (callM m_law_draw n (argC (var 0) (argC (ret (.int 10)) argN))) opAdd)))
    (retM (var 2))))
noncomputable def m_law_digits : Fn := fnQ false 2 4 b_law_digits
set_option maxHeartbeats 4000000 in
theorem pr_law_digits (Z : Zt P K mg) : Pr P w K mg base 2 "_law_digits" "_law_digits" s_law_digits ["_law_pen_here", "_law_many"] m_law_digits :=
  prF (pr_mk sc_law_digits (by decide) fun f cdv A outer s H E n hgd hr tk ow => by
    have nd := sc_law_digits.nd
    have hu := roomU hr
    have D_law_draw := df_row (pr_law_draw (P := P) (w := w) (base := base) Z) Z.fn_law_draw rfl
    exact (bcons (sset 2 nd xint)
    (bcons (sfor 3 rfl nd ow (irng Z.b_range (xv 1)) src_rng (bone (sset 2 nd (xadd (xmul xint (xv 2)) (xdef n D_law_draw hgd hr tk (by decide) (acons (xv 0) (acons xint anil)))))))
    (bone (sret (xv 2))))))
/-! ### _law_row: 0 _law_pen_here, 1 _law_label, 2 _law_start, 3 _law_end, 4 _law_ratio, 5 _law_cost, 6 _law_low, 7 _law_high -/
theorem sc_law_row : FnScope ["_law_pen_here", "_law_label", "_law_start", "_law_end", "_law_ratio", "_law_cost", "_law_low", "_law_high"] ["_law_pen_here", "_law_label", "_law_start", "_law_end"] (defScope s_law_row) := ⟨rfl, rfl, rfl, by decide +kernel, rfl, by decide +kernel, by decide +kernel⟩
noncomputable def b_law_row (n : Nat) : M Fl :=
  (seqM (asgM 4 (tupM (argC (bin (ret (.int 1)) (callM m_law_draw n (argC (var 0) (argC (ret (.int 9)) argN))) opAdd) (argC (bin (ret (.int 1)) (callM m_law_draw n (argC (var 0) (argC (ret (.int 9)) argN))) opAdd) argN))))
    (seqM (asgM 5 (callM m_law_pick n (argC (var 0) (argC (lstM (fits (argC (ret (.int 0)) (argC (ret (.int 0)) (argC (ret (.int 1)) (argC (callM m_law_draw n (argC (var 0) (argC (ret (.int 21)) argN))) (argC (ret (.int 20)) argN))))))) argN))))
    (seqM (asgM 6 (callM m_law_pick n (argC (var 0) (argC (lstM (fits (argC (ret (.int 0)) (argC (ret (.int 0)) (argC (ret (.int 1)) (argC (callM m_law_draw n (argC (var 0) (argC (ret (.int 30)) argN))) (argC (callM m_law_draw n (argC (var 0) (argC (ret (.int 1001)) argN))) (argC (ret (.int 1000)) argN)))))))) argN))))
    (seqM (asgM 7 (ret .non))
    (seqM (ifM (asB (bin (callM m_law_draw n (argC (var 0) (argC (ret (.int 4)) argN))) (ret (.int 0)) opEq)) (asgM 7 (bin (bin (ret (.int 10)) (ret (.int 6)) opPow) (bin (var 6) (callM m_law_pick n (argC (var 0) (argC (lstM (fits (argC (ret (.int 0)) (argC (ret (.int 1)) (argC (callM m_law_draw n (argC (var 0) (argC (ret (.int 100)) argN))) (argC (callM m_law_digits n (argC (var 0) (argC (ret (.int 6)) argN))) (argC (bin (ret (.int 10)) (ret (.int 6)) opPow) argN))))))) argN))) opAdd) opMin)) skipM)
    (retM (tupM (argC (var 1) (argC (var 2) (argC (var 3) (argC (var 4) (argC (var 5) (argC (var 6) (argC (var 7) argN))))))))))))))
noncomputable def m_law_row : Fn := fnQ false 4 8 b_law_row
set_option maxHeartbeats 4000000 in
theorem pr_law_row (Z : Zt P K mg) : Pr P w K mg base 3 "_law_row" "_law_row" s_law_row ["_law_pen_here", "_law_label", "_law_start", "_law_end"] m_law_row :=
  prF (pr_mk sc_law_row (by decide) fun f cdv A outer s H E n hgd hr tk ow => by
    have nd := sc_law_row.nd
    have hu := roomU hr
    have D_law_draw := df_row (pr_law_draw (P := P) (w := w) (base := base) Z) Z.fn_law_draw rfl
    have D_law_pick := df_row (pr_law_pick (P := P) (w := w) (base := base) Z) Z.fn_law_pick rfl
    have D_law_digits := df_row (pr_law_digits (P := P) (w := w) (base := base) Z) Z.fn_law_digits rfl
    exact (bcons (sset 4 nd (xtup (acons (xadd xint (xdef n D_law_draw hgd hr tk (by decide) (acons (xv 0) (acons xint anil)))) (acons (xadd xint (xdef n D_law_draw hgd hr tk (by decide) (acons (xv 0) (acons xint anil)))) anil))))
    (bcons (sset 5 nd (xdef n D_law_pick hgd hr tk (by decide) (acons (xv 0) (acons (xo (olst (acons xint (acons xint (acons xint (acons (xdef n D_law_draw hgd hr tk (by decide) (acons (xv 0) (acons xint anil))) (acons xint anil))))))) anil))))
    (bcons (sset 6 nd (xdef n D_law_pick hgd hr tk (by decide) (acons (xv 0) (acons (xo (olst (acons xint (acons xint (acons xint (acons (xdef n D_law_draw hgd hr tk (by decide) (acons (xv 0) (acons xint anil))) (acons (xdef n D_law_draw hgd hr tk (by decide) (acons (xv 0) (acons xint anil))) (acons xint anil)))))))) anil))))
    (bcons (sset 7 nd xnon)
    (bcons (sif (tcmp (k_eq hu) (xdef n D_law_draw hgd hr tk (by decide) (acons (xv 0) (acons xint anil))) xint) (bone (sset 7 nd (xmin2 rfl Z.b_min (xpow xint xint) (xadd (xv 6) (xdef n D_law_pick hgd hr tk (by decide) (acons (xv 0) (acons (xo (olst (acons xint (acons xint (acons (xdef n D_law_draw hgd hr tk (by decide) (acons (xv 0) (acons xint anil))) (acons (xdef n D_law_digits hgd hr tk (by decide) (acons (xv 0) (acons xint anil))) (acons (xpow xint xint) anil))))))) anil))))))) bnil)
    (bone (sret (xtup (acons (xv 1) (acons (xv 2) (acons (xv 3) (acons (xv 4) (acons (xv 5) (acons (xv 6) (acons (xv 7) anil))))))))))))))))
/-! ### is_name: 0 value, 1 letter -/
theorem sc_is_name : FnScope ["value", "letter"] ["value"] (defScope s_is_name) := ⟨rfl, rfl, rfl, by decide +kernel, rfl, by decide +kernel, by decide +kernel⟩
noncomputable def b_is_name (n : Nat) : M Fl :=
  (retM (andV (bnd (var 0) (fIsi "str")) (andV (chainM opLt opLe (ret (.int 0)) (bnd (var 0) fLen) (ret (.int 8))) (bnd (lstM (lcM (itemsM (var 0)) 1 [1] (ret true) (bin (var 1) (ret (.str "abcdefghijklmnopqrstuvwxyz")) opIn))) fAll))))
noncomputable def m_is_name : Fn := fnQ false 1 2 b_is_name
set_option maxHeartbeats 4000000 in
theorem pr_is_name (Z : Zt P K mg) : Pr P w K mg base 1 "is_name" "is_name" s_is_name ["value"] m_is_name :=
  prF (pr_mk sc_is_name (by decide) fun f cdv A outer s H E n hgd hr tk ow => by
    have nd := sc_is_name.nd
    have hu := roomU hr
    obtain ⟨_, h_ALPHABET⟩ := Z.gs_ALPHABET
    obtain ⟨_, h_LETTERS⟩ := Z.gi_LETTERS
    exact (bone (sret (xand (xisi Z.b_isinstance Z.b_str rfl (xv 0)) (xand (xchain k_lt k_le xint (xlen Z.b_len (xv 0)) (xgI h_LETTERS)) (pe_one (xall rfl Z.b_all (xo (olc 1 (own := [("letter", 1)]) rfl nd (iu (xv 0)) src_u (blkOk_by (by kernel_rfl)) (by decide) (fun _ _ _ _ _ => pg_name (i := 1) nd rfl (by first | exact Or.inl rfl | exact Or.inr rfl)) (fun _ _ _ _ _ => tsN) (fun _ _ _ _ _ => (xcmp (k_in hu) (xv 1) (xgS h_ALPHABET))))))))))))
/-! ### need_name: 0 value -/
theorem sc_need_name : FnScope ["value"] ["value"] (defScope s_need_name) := ⟨rfl, rfl, rfl, by decide +kernel, rfl, by decide +kernel, by decide +kernel⟩
noncomputable def b_need_name (n : Nat) : M Fl :=
  (ifM (notT (asB (callM m_is_name n (argC (var 0) argN)))) stuck skipM)
noncomputable def m_need_name : Fn := fnQ false 1 1 b_need_name
set_option maxHeartbeats 4000000 in
theorem pr_need_name (Z : Zt P K mg) : Pr P w K mg base 2 "need_name" "need_name" s_need_name ["value"] m_need_name :=
  prF (pr_mk sc_need_name (by decide) fun f cdv A outer s H E n hgd hr tk ow => by
    have nd := sc_need_name.nd
    have hu := roomU hr
    have D_is_name := df_row (pr_is_name (P := P) (w := w) (base := base) Z) Z.fn_is_name rfl
    exact (bone (sif (tnot (tval (xdef n D_is_name hgd hr tk (by decide) (acons (xv 0) anil)))) (bone sstuck) bnil)))
/-! ### is_integer: 0 value, 1 least, 2 most -/
theorem sc_is_integer : FnScope ["value", "least", "most"] ["value", "least", "most"] (defScope s_is_integer) := ⟨rfl, rfl, rfl, by decide +kernel, rfl, by decide +kernel, by decide +kernel⟩
noncomputable def b_is_integer (n : Nat) : M Fl :=
  (retM (andV (bnd (var 0) (fIsi "int")) (andV (notV (bnd (var 0) (fIsi "bool"))) (chainM opLe opLe (var 1) (var 0) (var 2)))))
noncomputable def m_is_integer : Fn := fnQ false 3 3 b_is_integer
set_option maxHeartbeats 4000000 in
theorem pr_is_integer (Z : Zt P K mg) : Pr P w K mg base 1 "is_integer" "is_integer" s_is_integer ["value", "least", "most"] m_is_integer :=
  prF (pr_mk sc_is_integer (by decide) fun f cdv A outer s H E n hgd hr tk ow => by
    have nd := sc_is_integer.nd
    have hu := roomU hr
    exact (bone (sret (xand (xisi Z.b_isinstance Z.b_int rfl (xv 0)) (xand (xnot (xisi Z.b_isinstance Z.b_bool rfl (xv 0))) (pe_one (xchain k_le k_le (xv 1) (xv 0) (xv 2))))))))
/-! ### is_rate: 0 value, 1 part -/
theorem sc_is_rate : FnScope ["value", "part"] ["value"] (defScope s_is_rate) := ⟨rfl, rfl, rfl, by decide +kernel, rfl, by decide +kernel, by decide +kernel⟩
noncomputable def b_is_rate (n : Nat) : M Fl :=
  (seqM (ifM (orT (notT (asB (bnd (var 0) (fIsi "tuple")))) (asB (bin (bnd (var 0) fLen) (ret (.int 2)) opNe))) (retM (ret (.bl false))) skipM)
    (retM (bnd (lstM (lcM (itemsM (var 0)) 1 [1] (ret true) (callM m_is_integer n (appA 1 (["least", "most"] : List Str).length (argC (var 1) argN) (argC (ret (.int 1)) (argC (ret (.int 9)) argN)))))) fAll)))
noncomputable def m_is_rate : Fn := fnQ false 1 2 b_is_rate
set_option maxHeartbeats 4000000 in
theorem pr_is_rate (Z : Zt P K mg) : Pr P w K mg base 2 "is_rate" "is_rate" s_is_rate ["value"] m_is_rate :=
  prF (pr_mk sc_is_rate (by decide) fun f cdv A outer s H E n hgd hr tk ow => by
    have nd := sc_is_rate.nd
    have hu := roomU hr
    have DK_is_integer_1_least_most := dfk_row (pr_is_integer (P := P) (w := w) (base := base) Z) Z.fk_is_integer_1_least_most rfl
    obtain ⟨_, _, _, cm_Office_RATE, cr_Office_RATE, cv_Office_RATE⟩ := Z.ca_Office_RATE
    exact (bcons (sif (PW.pt (wor (tnot (tval (xisi Z.b_isinstance Z.b_tuple rfl (xv 0)))) (pw_or1 (tcmp (k_ne hu) (xlen Z.b_len (xv 0)) xint)))) (bone (sret xbl)) bnil)
    (bone (sret (xall rfl Z.b_all (xo (olc 1 (own := [("part", 1)]) rfl nd (iu (xv 0)) src_u (blkOk_by (by kernel_rfl)) (by decide) (fun _ _ _ _ _ => pg_name (i := 1) nd rfl (by first | exact Or.inl rfl | exact Or.inr rfl)) (fun _ _ _ _ _ => tsN) (fun _ _ _ _ _ => (xcallK n DK_is_integer_1_least_most hgd hr takesF (by decide) (acons (xv 1) anil) (akC xint (akC (xcattr cm_Office_RATE cr_Office_RATE cv_Office_RATE) akN)))))))))))
theorem sc_InvalidNumber_init : FnScope ["self", "value"] ["self", "value"] (defScope s_InvalidNumber_init) := ⟨rfl, rfl, rfl, by decide +kernel, rfl, by decide +kernel, by decide +kernel⟩
theorem ek_InvalidNumber (Z : Zt P K mg) : ExK P w K mg base 1 "InvalidNumber" "value" := by
  obtain ⟨C, fI, fd, h1, h2, T, h3, h4, h5, F, hb, vV⟩ := Z.ex_InvalidNumber
  exact ⟨C, fI, fd, ["self", "value"], _, _, _, _, h1, h2, T, h3, h4, fn_initB F sc_InvalidNumber_init T h5 rfl fun cdv A outer s H E => pss_cons (ps_expr (pe_binit rfl Z.b_ValueError rfl rfl rfl vV rfl (pa_cons (pv 0) (pa_cons pe_str pa_nil)))) (pss_one (ps_ostB (pv 0) (pv 1))), hb⟩
/-! ### need_integer: 0 value, 1 least, 2 most -/
theorem sc_need_integer : FnScope ["value", "least", "most"] ["value", "least", "most"] (defScope s_need_integer) := ⟨rfl, rfl, rfl, by decide +kernel, rfl, by decide +kernel, by decide +kernel⟩
noncomputable def b_need_integer (n : Nat) : M Fl :=
  (ifM (notT (asB (callM m_is_integer n (appA 1 (["least", "most"] : List Str).length (argC (var 0) argN) (argC (var 1) (argC (var 2) argN)))))) (raiseM "InvalidNumber" "value" (var 0)) skipM)
noncomputable def m_need_integer : Fn := fnQ false 3 3 b_need_integer
set_option maxHeartbeats 4000000 in
theorem pr_need_integer (Z : Zt P K mg) : Pr P w K mg base 3 "need_integer" "need_integer" s_need_integer ["value", "least", "most"] m_need_integer :=
  prF (pr_mk sc_need_integer (by decide) fun f cdv A outer s H E n hgd hr tk ow => by
    have nd := sc_need_integer.nd
    have hu := roomU hr
    have DK_is_integer_1_least_most := dfk_row (pr_is_integer (P := P) (w := w) (base := base) Z) Z.fk_is_integer_1_least_most rfl
    have EK_InvalidNumber := ek_InvalidNumber (P := P) (w := w) (base := base) Z
    exact (bone (sif (tnot (tval (xcallK n DK_is_integer_1_least_most hgd hr tk (by decide) (acons (xv 0) anil) (akC (xv 1) (akC (xv 2) akN))))) (bone (sraise EK_InvalidNumber rfl hgd hr tk (by decide) (xv 0))) bnil)))
/-! ### Office.__init__: 0 self, 1 name, 2 source, 3 goal, 4 rate, 5 fee, 6 least, 7 value -/
theorem sc_Office_init : FnScope ["self", "name", "source", "goal", "rate", "fee", "least", "value"] ["self", "name", "source", "goal", "rate", "fee", "least"] (defScope s_Office_init) := ⟨rfl, rfl, rfl, by decide +kernel, rfl, by decide +kernel, by decide +kernel⟩
noncomputable def b_Office_init (n : Nat) : M Fl :=
  (seqM (loopM (itemsM (tupM (argC (var 1) (argC (var 2) (argC (var 3) argN))))) 7 (dropM (callM m_need_name n (argC (var 7) argN))))
    (seqM (ifM (notT (asB (callM m_is_rate n (argC (var 4) argN)))) stuck skipM)
    (seqM (dropM (callM m_need_integer n (appA 1 (["least", "most"] : List Str).length (argC (var 5) argN) (argC (ret (.int 0)) (argC (bnd (var 0) (conM ["Office", "CappedOffice"] "FEE" 20)) argN)))))
    (seqM (dropM (callM m_need_integer n (appA 1 (["least", "most"] : List Str).length (argC (var 6) argN) (argC (ret (.int 0)) (argC (bnd (var 0) (conM ["Office", "CappedOffice"] "LEAST" 1000)) argN)))))
    (seqM (fputM ["Office", "CappedOffice"] "name" (var 0) (var 1))
    (seqM (fputM ["Office", "CappedOffice"] "own_ends" (var 0) (tupM (argC (var 2) (argC (var 3) argN))))
    (seqM (fputM ["Office", "CappedOffice"] "own_rate" (var 0) (var 4))
    (seqM (fputM ["Office", "CappedOffice"] "own_fee" (var 0) (var 5))
    (fputM ["Office", "CappedOffice"] "own_least" (var 0) (var 6))))))))))
noncomputable def m_Office_init : Fn := fnQ false 7 8 b_Office_init
set_option maxHeartbeats 4000000 in
theorem pr_Office_init (Z : Zt P K mg) : Pr P w K mg base 4 "__init__" "Office.__init__" s_Office_init ["self", "name", "source", "goal", "rate", "fee", "least"] m_Office_init :=
  prF (pr_mk sc_Office_init (by decide) fun f cdv A outer s H E n hgd hr tk ow => by
    have nd := sc_Office_init.nd
    have hu := roomU hr
    have D_need_name := df_row (pr_need_name (P := P) (w := w) (base := base) Z) Z.fn_need_name rfl
    have D_is_rate := df_row (pr_is_rate (P := P) (w := w) (base := base) Z) Z.fn_is_rate rfl
    have DK_need_integer_1_least_most := dfk_row (pr_need_integer (P := P) (w := w) (base := base) Z) Z.fk_need_integer_1_least_most rfl
    exact (bcons (sfor 7 rfl nd ow (iu (xtup (acons (xv 1) (acons (xv 2) (acons (xv 3) anil))))) src_u (bone (sexpr (xdef n D_need_name hgd hr tk (by decide) (acons (xv 7) anil)))))
    (bcons (sif (tnot (tval (xdef n D_is_rate hgd hr tk (by decide) (acons (xv 4) anil)))) (bone sstuck) bnil)
    (bcons (sexpr (xcallK n DK_need_integer_1_least_most hgd hr tk (by decide) (acons (xv 5) anil) (akC xint (akC (xcon Z.co_FEE (xv 0)) akN))))
    (bcons (sexpr (xcallK n DK_need_integer_1_least_most hgd hr tk (by decide) (acons (xv 6) anil) (akC xint (akC (xcon Z.co_LEAST (xv 0)) akN))))
    (bcons (sfput Z.fo_name (xv 0) (xv 1))
    (bcons (sfput Z.fo_own_ends (xv 0) (xtup (acons (xv 2) (acons (xv 3) anil))))
    (bcons (sfput Z.fo_own_rate (xv 0) (xv 4))
    (bcons (sfput Z.fo_own_fee (xv 0) (xv 5))
    (bone (sfput Z.fo_own_least (xv 0) (xv 6))))))))))))
noncomputable def ts_CappedOffice_init_5_fee_least : List (Str × Fn) := [("CappedOffice", m_Office_init)]
theorem Tts_CappedOffice_init_5_fee_least (Z : Zt P K mg) {D : Addr} (hD : ClsAt K "CappedOffice" D) : SupTab P w K mg base 4 D "__init__" 7 5 ["fee", "least"] ts_CappedOffice_init_5_fee_least := (supC hD (pr_Office_init Z) Z.su_CappedOffice_CappedOffice_init_5_fee_least (by decide) rfl sup0)
/-! ### CappedOffice.__init__: 0 self, 1 name, 2 source, 3 goal, 4 rate, 5 most, 6 fee, 7 least, 8 __class__ -/
theorem sc_CappedOffice_init : NScope ["self", "name", "source", "goal", "rate", "most", "fee", "least", "__class__"] ["self", "name", "source", "goal", "rate", "most", "fee", "least"] ["__class__"] (defScope s_CappedOffice_init) := nscope_by (by decide +kernel)
noncomputable def b_CappedOffice_init (n : Nat) : M Fl :=
  (seqM (dropM (supM ts_CappedOffice_init_5_fee_least n (appA 4 (["fee", "least"] : List Str).length (argC (var 1) (argC (var 2) (argC (var 3) (argC (var 4) argN)))) (argC (var 6) (argC (var 7) argN)))))
    (seqM (dropM (callM m_need_integer n (appA 1 (["least", "most"] : List Str).length (argC (var 5) argN) (argC (var 7) (argC (bnd (var 0) (conM ["CappedOffice"] "MOST" 1000000)) argN)))))
    (fputM ["CappedOffice"] "own_most" (var 0) (var 5))))
noncomputable def m_CappedOffice_init : Fn := fnQ false 8 9 b_CappedOffice_init
set_option maxHeartbeats 4000000 in
theorem pr_CappedOffice_init (Z : Zt P K mg) : PrS P w K mg base 5 "__init__" "CappedOffice.__init__" "CappedOffice" s_CappedOffice_init ["self", "name", "source", "goal", "rate", "most", "fee", "least"] m_CappedOffice_init :=
  prsF (prs_mk sc_CappedOffice_init (by decide) fun f cc cda D S1 hD A outer s H E n hgd hr tk ow => by
    have nd := sc_CappedOffice_init.nd
    have hu := roomU hr
    have SX := supX_of (P := P) (w := w) (base := base) (N := ["self", "name", "source", "goal", "rate", "most", "fee", "least", "__class__"]) (x := "__init__") (qual := "CappedOffice.__init__") (st := s_CappedOffice_init) (A := A) (outer := outer) (s := s) (H := H) (E := E) S1 rfl rfl rfl rfl
    have Hts_CappedOffice_init_5_fee_least := Tts_CappedOffice_init_5_fee_least (P := P) (w := w) (base := base) Z hD
    have DK_need_integer_1_least_most := dfk_row (pr_need_integer (P := P) (w := w) (base := base) Z) Z.fk_need_integer_1_least_most rfl
    exact (acons1 (aexpr (asup n Hts_CappedOffice_init_5_fee_least SX hgd hr tk (by decide) (acons (xv 1) (acons (xv 2) (acons (xv 3) (acons (xv 4) anil)))) (akC (xv 6) (akC (xv 7) akN))))
    (bcons (sexpr (xcallK n DK_need_integer_1_least_most hgd hr tk (by decide) (acons (xv 5) anil) (akC (xv 7) (akC (xcon Z.co_MOST (xv 0)) akN))))
    (bone (sfput Z.fo_own_most (xv 0) (xv 5))))))
/-! ### _law_made: 0 _law_row_here -/
theorem sc_law_made : FnScope ["_law_row_here"] ["_law_row_here"] (defScope s_law_made) := ⟨rfl, rfl, rfl, by decide +kernel, rfl, by decide +kernel, by decide +kernel⟩
noncomputable def b_law_made (n : Nat) : M Fl :=
  (seqM (ifM (asB (isN false (bin (var 0) (ret (.int 6)) opIx))) (retM (makeM "Office" m_Office_init n (appA 4 (["fee", "least"] : List Str).length (argC (bin (var 0) (ret (.int 0)) opIx) (argC (bin (var 0) (ret (.int 1)) opIx) (argC (bin (var 0) (ret (.int 2)) opIx) (argC (bin (var 0) (ret (.int 3)) opIx) argN)))) (argC (bin (var 0) (ret (.int 4)) opIx) (argC (bin (var 0) (ret (.int 5)) opIx) argN))))) skipM)
    (retM (makeM "CappedOffice" m_CappedOffice_init n (appA 4 (["most", "fee", "least"] : List Str).length (argC (bin (var 0) (ret (.int 0)) opIx) (argC (bin (var 0) (ret (.int 1)) opIx) (argC (bin (var 0) (ret (.int 2)) opIx) (argC (bin (var 0) (ret (.int 3)) opIx) argN)))) (argC (bin (var 0) (ret (.int 6)) opIx) (argC (bin (var 0) (ret (.int 4)) opIx) (argC (bin (var 0) (ret (.int 5)) opIx) argN)))))))
noncomputable def m_law_made : Fn := fnQ false 1 1 b_law_made
set_option maxHeartbeats 4000000 in
theorem pr_law_made (Z : Zt P K mg) : Pr P w K mg base 7 "_law_made" "_law_made" s_law_made ["_law_row_here"] m_law_made :=
  prF (pr_mk sc_law_made (by decide) fun f cdv A outer s H E n hgd hr tk ow => by
    have nd := sc_law_made.nd
    have hu := roomU hr
    have M_Office_4_fee_least := mk_row (pr_Office_init (P := P) (w := w) (base := base) Z) Z.mk_Office_4_fee_least rfl
    have M_CappedOffice_4_most_fee_least := mkS_row (pr_CappedOffice_init (P := P) (w := w) (base := base) Z) Z.mk_CappedOffice_4_most_fee_least rfl
    exact (bcons (sif (tisN (xix (xv 0) xint)) (bone (sret (xmake n M_Office_4_fee_least hgd hr tk (by decide) (acons (xix (xv 0) xint) (acons (xix (xv 0) xint) (acons (xix (xv 0) xint) (acons (xix (xv 0) xint) anil)))) (akC (xix (xv 0) xint) (akC (xix (xv 0) xint) akN))))) bnil)
    (bone (sret (xmake n M_CappedOffice_4_most_fee_least hgd hr tk (by decide) (acons (xix (xv 0) xint) (acons (xix (xv 0) xint) (acons (xix (xv 0) xint) (acons (xix (xv 0) xint) anil)))) (akC (xix (xv 0) xint) (akC (xix (xv 0) xint) (akC (xix (xv 0) xint) akN))))))))
/-! ### _law_any: 0 _law_pen_here, 1 _law_some -/
theorem sc_law_any : FnScope ["_law_pen_here", "_law_some"] ["_law_pen_here"] (defScope s_law_any) := ⟨rfl, rfl, rfl, by decide +kernel, rfl, by decide +kernel, by decide +kernel⟩
noncomputable def b_law_any (n : Nat) : M Fl :=
  (seqM (asgM 1 (lstM (fits (argC (ret .non) (argC (ret (.bl true)) (argC (ret (.bl false)) (argC (ret (.int 0)) (argC (ret (.int 1)) (argC (bnd (ret (.int 1)) fNeg) (argC (ret (.int 9)) (argC (ret (.int 10)) (argC (ret (.int 20)) (argC (ret (.int 21)) (argC (ret (.int 1000)) (argC (ret (.int 1001)) (argC (bin (ret (.int 10)) (ret (.int 6)) opPow) (argC (bin (bin (ret (.int 10)) (ret (.int 6)) opPow) (ret (.int 1)) opAdd) (argC (bin (ret (.int 10)) (ret (.int 30)) opPow) (argC (bin (bin (ret (.int 10)) (ret (.int 30)) opPow) (ret (.int 1)) opAdd) argN)))))))))))))))))))
    (seqM (asgM 1 (bin (var 1) (lstM (fits (argC (ret (.str "")) (argC (ret (.str "a")) (argC (ret (.str "A")) (argC (ret (.str "a b")) (argC (ret (.str "a1")) (argC (ret (.str "abcdefgh")) (argC (ret (.str "abcdefghi")) (argC (tupM (argC (ret (.int 1)) (argC (ret (.int 2)) argN))) (argC (lstM (fits (argC (ret (.int 1)) (argC (ret (.int 2)) argN)))) (argC (tupM (argC (ret (.int 0)) (argC (ret (.int 1)) argN))) (argC (tupM (argC (ret (.int 1)) (argC (ret (.int 0)) argN))) (argC (tupM (argC (ret (.int 10)) (argC (ret (.int 1)) argN))) argN)))))))))))))) opAdd))
    (seqM (asgM 1 (bin (var 1) (lstM (fits (argC (tupM (argC (ret (.int 1)) (argC (ret (.int 10)) argN))) (argC (tupM (argC (ret (.int 1)) argN)) (argC (tupM (argC (ret (.int 1)) (argC (ret (.int 2)) (argC (ret (.int 3)) argN)))) (argC (tupM (argC (ret (.bl true)) (argC (ret (.int 1)) argN))) (argC (ret (.dic [])) (argC (lstM (fits argN)) (argC (tupM argN) (argC (ret (.dic [("a", 1)])) (argC (tupM (argC (ret (.str "a")) (argC (ret (.int 5)) argN))) (argC (lstM (fits (argC (ret (.str "a")) (argC (ret (.int 5)) argN)))) (argC (bnd (bin (ret (.int 10)) (ret (.int 40)) opPow) fNeg) (argC (ret (.str "self")) argN)))))))))))))) opAdd))
    (retM (callM m_law_pick n (argC (var 0) (argC (var 1) argN)))))))
noncomputable def m_law_any : Fn := fnQ false 1 2 b_law_any
set_option maxHeartbeats 4000000 in
theorem pr_law_any (Z : Zt P K mg) : Pr P w K mg base 3 "_law_any" "_law_any" s_law_any ["_law_pen_here"] m_law_any :=
  prF (pr_mk sc_law_any (by decide) fun f cdv A outer s H E n hgd hr tk ow => by
    have nd := sc_law_any.nd
    have hu := roomU hr
    have D_law_pick := df_row (pr_law_pick (P := P) (w := w) (base := base) Z) Z.fn_law_pick rfl
    exact (bcons (sset 1 nd (xo (olst (acons xnon (acons xbl (acons xbl (acons xint (acons xint (acons (xneg xint) (acons xint (acons xint (acons xint (acons xint (acons xint (acons xint (acons (xpow xint xint) (acons (xadd (xpow xint xint) xint) (acons (xpow xint xint) (acons (xadd (xpow xint xint) xint) anil)))))))))))))))))))
    (bcons (sset 1 nd (xadd (xv 1) (xo (olst (acons xstr (acons xstr (acons xstr (acons xstr (acons xstr (acons xstr (acons xstr (acons (xtup (acons xint (acons xint anil))) (acons (xo (olst (acons xint (acons xint anil)))) (acons (xtup (acons xint (acons xint anil))) (acons (xtup (acons xint (acons xint anil))) (acons (xtup (acons xint (acons xint anil))) anil))))))))))))))))
    (bcons (sset 1 nd (xadd (xv 1) (xo (olst (acons (xtup (acons xint (acons xint anil))) (acons (xtup (acons xint anil)) (acons (xtup (acons xint (acons xint (acons xint anil)))) (acons (xtup (acons xbl (acons xint anil))) (acons xdF0 (acons (xo (olst anil)) (acons (xtup anil) (acons (xdF1 (kC xint kN)) (acons (xtup (acons xstr (acons xint anil))) (acons (xo (olst (acons xstr (acons xint anil)))) (acons (xneg (xpow xint xint)) (acons xstr anil))))))))))))))))
    (bone (sret (xdef n D_law_pick hgd hr tk (by decide) (acons (xv 0) (acons (xv 1) anil)))))))))
/-! ### _law_amount: 0 _law_pen_here, 1 _law_row_here, 2 _law_near, 3 _law_some -/
theorem sc_law_amount : FnScope ["_law_pen_here", "_law_row_here", "_law_near", "_law_some"] ["_law_pen_here", "_law_row_here"] (defScope s_law_amount) := ⟨rfl, rfl, rfl, by decide +kernel, rfl, by decide +kernel, by decide +kernel⟩
noncomputable def b_law_amount (n : Nat) : M Fl :=
  (seqM (asgM 2 (iteT (orT (asB (isN false (bin (var 1) (ret (.int 6)) opIx))) (asB (bin (callM m_law_draw n (argC (var 0) (argC (ret (.int 2)) argN))) (ret (.int 0)) opEq))) (bin (var 1) (ret (.int 5)) opIx) (bin (var 1) (ret (.int 6)) opIx)))
    (seqM (asgM 3 (lstM (fits (argC (ret (.int 0)) (argC (ret (.int 1)) (argC (var 2) (argC (var 2) (argC (bin (var 2) (ret (.int 1)) opAdd) (argC (bin (ret (.int 0)) (bin (var 2) (ret (.int 1)) opSub) opMax) (argC (bin (var 2) (callM m_law_draw n (argC (var 0) (argC (ret (.int 40)) argN))) opAdd) (argC (callM m_law_draw n (argC (var 0) (argC (ret (.int 100)) argN))) argN)))))))))))
    (seqM (asgM 3 (bin (var 3) (lstM (fits (argC (callM m_law_digits n (argC (var 0) (argC (ret (.int 6)) argN))) (argC (callM m_law_digits n (argC (var 0) (argC (ret (.int 30)) argN))) (argC (bin (ret (.int 10)) (ret (.int 30)) opPow) argN))))) opAdd))
    (retM (callM m_law_pick n (argC (var 0) (argC (var 3) argN)))))))
noncomputable def m_law_amount : Fn := fnQ false 2 4 b_law_amount
set_option maxHeartbeats 4000000 in
theorem pr_law_amount (Z : Zt P K mg) : Pr P w K mg base 3 "_law_amount" "_law_amount" s_law_amount ["_law_pen_here", "_law_row_here"] m_law_amount :=
  prF (pr_mk sc_law_amount (by decide) fun f cdv A outer s H E n hgd hr tk ow => by
    have nd := sc_law_amount.nd
    have hu := roomU hr
    have D_law_draw := df_row (pr_law_draw (P := P) (w := w) (base := base) Z) Z.fn_law_draw rfl
    have D_law_digits := df_row (pr_law_digits (P := P) (w := w) (base := base) Z) Z.fn_law_digits rfl
    have D_law_pick := df_row (pr_law_pick (P := P) (w := w) (base := base) Z) Z.fn_law_pick rfl
    exact (bcons (sset 2 nd (xif (PW.pt (wor (tisN (xix (xv 1) xint)) (pw_or1 (tcmp (k_eq hu) (xdef n D_law_draw hgd hr tk (by decide) (acons (xv 0) (acons xint anil))) xint)))) (xix (xv 1) xint) (xix (xv 1) xint)))
    (bcons (sset 3 nd (xo (olst (acons xint (acons xint (acons (xv 2) (acons (xv 2) (acons (xadd (xv 2) xint) (acons (xmax2 rfl Z.b_max xint (xsub (xv 2) xint)) (acons (xadd (xv 2) (xdef n D_law_draw hgd hr tk (by decide) (acons (xv 0) (acons xint anil)))) (acons (xdef n D_law_draw hgd hr tk (by decide) (acons (xv 0) (acons xint anil))) anil)))))))))))
    (bcons (sset 3 nd (xadd (xv 3) (xo (olst (acons (xdef n D_law_digits hgd hr tk (by decide) (acons (xv 0) (acons xint anil))) (acons (xdef n D_law_digits hgd hr tk (by decide) (acons (xv 0) (acons xint anil))) (acons (xpow xint xint) anil)))))))
    (bone (sret (xdef n D_law_pick hgd hr tk (by decide) (acons (xv 0) (acons (xv 3) anil)))))))))
/-! ### _law_is_integer: 0 _law_value, 1 _law_low, 2 _law_high -/
theorem sc_law_is_integer : FnScope ["_law_value", "_law_low", "_law_high"] ["_law_value", "_law_low", "_law_high"] (defScope s_law_is_integer) := ⟨rfl, rfl, rfl, by decide +kernel, rfl, by decide +kernel, by decide +kernel⟩
noncomputable def b_law_is_integer (n : Nat) : M Fl :=
  (retM (andV (bnd (var 0) (fIsi "int")) (andV (notV (bnd (var 0) (fIsi "bool"))) (chainM opLe opLe (var 1) (var 0) (var 2)))))
noncomputable def m_law_is_integer : Fn := fnQ false 3 3 b_law_is_integer
set_option maxHeartbeats 4000000 in
theorem pr_law_is_integer (Z : Zt P K mg) : Pr P w K mg base 1 "_law_is_integer" "_law_is_integer" s_law_is_integer ["_law_value", "_law_low", "_law_high"] m_law_is_integer :=
  prF (pr_mk sc_law_is_integer (by decide) fun f cdv A outer s H E n hgd hr tk ow => by
    have nd := sc_law_is_integer.nd
    have hu := roomU hr
    exact (bone (sret (xand (xisi Z.b_isinstance Z.b_int rfl (xv 0)) (xand (xnot (xisi Z.b_isinstance Z.b_bool rfl (xv 0))) (pe_one (xchain k_le k_le (xv 1) (xv 0) (xv 2))))))))
/-! ### _law_result: 0 _law_row_here, 1 _law_number, 2 _law_paid, 3 _law_found -/
theorem sc_law_result : FnScope ["_law_row_here", "_law_number", "_law_paid", "_law_found"] ["_law_row_here", "_law_number"] (defScope s_law_result) := ⟨rfl, rfl, rfl, by decide +kernel, rfl, by decide +kernel, by decide +kernel⟩
noncomputable def b_law_result (n : Nat) : M Fl :=
  (seqM (ifM (asB (bin (var 1) (bin (var 0) (ret (.int 5)) opIx) opLt)) (retM (ret .non)) skipM)
    (seqM (asgM 2 (iteT (orT (asB (isN false (bin (var 0) (ret (.int 6)) opIx))) (asB (bin (var 1) (bin (var 0) (ret (.int 6)) opIx) opLt))) (var 1) (bin (var 0) (ret (.int 6)) opIx)))
    (seqM (asgM 3 (bin (bin (bin (var 2) (bin (bin (var 0) (ret (.int 3)) opIx) (ret (.int 0)) opIx) opMul) (bin (bin (var 0) (ret (.int 3)) opIx) (ret (.int 1)) opIx) opDiv) (bin (var 0) (ret (.int 4)) opIx) opSub))
    (retM (iteT (asB (bin (var 3) (ret (.int 0)) opGt)) (var 3) (ret (.int 0)))))))
noncomputable def m_law_result : Fn := fnQ false 2 4 b_law_result
set_option maxHeartbeats 4000000 in
theorem pr_law_result (Z : Zt P K mg) : Pr P w K mg base 1 "_law_result" "_law_result" s_law_result ["_law_row_here", "_law_number"] m_law_result :=
  prF (pr_mk sc_law_result (by decide) fun f cdv A outer s H E n hgd hr tk ow => by
    have nd := sc_law_result.nd
    have hu := roomU hr
    exact (bcons (sif (tcmp k_lt (xv 1) (xix (xv 0) xint)) (bone (sret xnon)) bnil)
    (bcons (sset 2 nd (xif (PW.pt (wor (tisN (xix (xv 0) xint)) (pw_or1 (tcmp k_lt (xv 1) (xix (xv 0) xint))))) (xv 1) (xix (xv 0) xint)))
    (bcons (sset 3 nd (xsub (xfdiv (xmul (xv 2) (xix (xix (xv 0) xint) xint)) (xix (xix (xv 0) xint) xint)) (xix (xv 0) xint)))
    (bone (sret (xif (tcmp k_gt (xv 3) xint) (xv 3) xint)))))))
/-! ### _law_due: 0 _law_row_here, 1 _law_value, 2 _law_found -/
theorem sc_law_due : FnScope ["_law_row_here", "_law_value", "_law_found"] ["_law_row_here", "_law_value"] (defScope s_law_due) := ⟨rfl, rfl, rfl, by decide +kernel, rfl, by decide +kernel, by decide +kernel⟩
noncomputable def b_law_due (n : Nat) : M Fl :=
  (seqM (ifM (notT (asB (callM m_law_is_integer n (argC (var 1) (argC (ret (.int 0)) (argC (bin (ret (.int 10)) (ret (.int 30)) opPow) argN)))))) (retM (tupM (argC (ret (.str "number")) (argC (bnd (var 1) fRepr) (argC (ret (.bl true)) argN))))) skipM)
    (seqM (asgM 2 (callM m_law_result n (argC (var 0) (argC (var 1) argN))))
    (retM (iteT (asB (isN false (var 2))) (tupM (argC (ret (.str "closed")) (argC (bin (var 0) (ret (.int 0)) opIx) (argC (ret (.bl true)) argN)))) (tupM (argC (ret (.str "told")) (argC (var 2) argN)))))))
noncomputable def m_law_due : Fn := fnQ false 2 3 b_law_due
set_option maxHeartbeats 4000000 in
theorem pr_law_due (Z : Zt P K mg) : Pr P w K mg base 2 "_law_due" "_law_due" s_law_due ["_law_row_here", "_law_value"] m_law_due :=
  prF (pr_mk sc_law_due (by decide) fun f cdv A outer s H E n hgd hr tk ow => by
    have nd := sc_law_due.nd
    have hu := roomU hr
    have D_law_is_integer := df_row (pr_law_is_integer (P := P) (w := w) (base := base) Z) Z.fn_law_is_integer rfl
    have D_law_result := df_row (pr_law_result (P := P) (w := w) (base := base) Z) Z.fn_law_result rfl
    exact (bcons (sif (tnot (tval (xdef n D_law_is_integer hgd hr tk (by decide) (acons (xv 1) (acons xint (acons (xpow xint xint) anil)))))) (bone (sret (xtup (acons xstr (acons (xrepr hgd hu Z.b_repr (xv 1)) (acons xbl anil)))))) bnil)
    (bcons (sset 2 nd (xdef n D_law_result hgd hr tk (by decide) (acons (xv 0) (acons (xv 1) anil))))
    (bone (sret (xif (tisN (xv 2)) (xtup (acons xstr (acons (xix (xv 0) xint) (acons xbl anil)))) (xtup (acons xstr (acons (xv 2) anil)))))))))
/-! ### _law_told: 0 _law_call, 1 _law_caught, 2 e, 3 _law_plain -/
theorem sc_law_told : FnScope ["_law_call", "_law_caught", "e", "_law_plain"] ["_law_call"] (defScope s_law_told) := ⟨rfl, rfl, rfl, by decide +kernel, rfl, by decide +kernel, by decide +kernel⟩
noncomputable def b_law_told (φ : Clo) (n : Nat) : M Fl :=
  (seqM (asgM 1 (ret .non))
    (seqM (keepM [("Closed", true), ("InvalidNumber", true)] 2 1 (retM (tupM (argC (ret (.str "told")) (argC (callF φ 0 n argN) argN)))))
    (seqM (ifM (asB (bnd (var 1) (ixM [("Closed", true), ("InvalidNumber", false)]))) (seqM (asgM 3 (andV (bnd (var 1) (ixM [("Closed", true), ("InvalidNumber", false)])) (notV (bnd (var 1) (ixM [("Closed", false), ("InvalidNumber", true)])))))
    (retM (tupM (argC (ret (.str "closed")) (argC (bnd (var 1) (xfldM ["Closed"] "name")) (argC (var 3) argN)))))) skipM)
    (retM (tupM (argC (ret (.str "number")) (argC (bnd (bnd (var 1) (xfldM ["InvalidNumber"] "value")) fRepr) (argC (bnd (var 1) (ixM [("Closed", false), ("InvalidNumber", true)])) argN))))))))
noncomputable def m_law_told (φ : Clo) : Fn := fnQ false 1 4 (b_law_told φ)
set_option maxHeartbeats 4000000 in
theorem pr_law_told (Z : Zt P K mg) {L : LamB} {φ : Clo} (o : ClOk P w K mg base 6 L φ.m) (hq : φ.q = L.q) (hps : L.ps = []) : PrC P w K mg base 7 "_law_told" "_law_told" s_law_told ["_law_call"] L φ (m_law_told φ) :=
  prcF (prc_mk o hq sc_law_told (by decide) fun f cdv A outer s H E n hgd hr tk ow O => by
    have nd := sc_law_told.nd
    have hu := roomU hr
    obtain ⟨_, _, kmkp_Closed_InvalidNumber_Closed, kmkp_Closed_InvalidNumber_InvalidNumber, ktkp_Closed_InvalidNumber⟩ := Z.kp_Closed_InvalidNumber
    obtain ⟨_, gmix_Closed_Closed, gtix_Closed⟩ := Z.ix_Closed
    obtain ⟨_, gmix_InvalidNumber_ValueError_InvalidNumber, gtix_InvalidNumber_ValueError⟩ := Z.ix_InvalidNumber_ValueError
    have gtix_RuntimeError := Z.ix_RuntimeError
    have gtix_ValueError := Z.ix_ValueError
    exact (bcons (sset 1 nd xnon)
    (bcons (skeep 2 1 ktkp_Closed_InvalidNumber (test2 ⟨rfl, by decide, .inl kmkp_Closed_InvalidNumber_Closed⟩ ⟨rfl, by decide, .inl kmkp_Closed_InvalidNumber_InvalidNumber⟩) tk nd (fun _ _ _ tk ow => (bone (sret (xtup (acons xstr (acons (xcallF0 n 0 (by first | exact O | exact O.tr | exact O.tr.tr) hgd hr tk (by decide) hps) anil)))))))
    (bcons (sif (tval (xixC gtix_Closed Z.b_isinstance gmix_Closed_Closed (xv 1))) (bcons (sset 3 nd (xand (xixB gtix_RuntimeError Z.b_isinstance Z.b_RuntimeError rfl (xv 1)) (pe_one (xnot (xixT (hz := by first | decide | simp [sizeLine_eq]) gtix_InvalidNumber_ValueError (.cons (.own _) (.cons (.ty _) .nil)) Z.b_isinstance (xv 1) (nmsC (nmC gmix_InvalidNumber_ValueError_InvalidNumber) (nmsC (nmB Z.b_ValueError rfl) nms0)))))))
    (bone (sret (xtup (acons xstr (acons (xxf Z.xf_name (xv 1)) (acons (xv 3) anil))))))) bnil)
    (bone (sret (xtup (acons xstr (acons (xrepr hgd hu Z.b_repr (xxf Z.xf_value (xv 1))) (acons (xixB gtix_ValueError Z.b_isinstance Z.b_ValueError rfl (xv 1)) anil))))))))))
/-! ### need_amount: 0 value -/
theorem sc_need_amount : FnScope ["value"] ["value"] (defScope s_need_amount) := ⟨rfl, rfl, rfl, by decide +kernel, rfl, by decide +kernel, by decide +kernel⟩
noncomputable def b_need_amount (n : Nat) : M Fl :=
  (dropM (callM m_need_integer n (appA 1 (["least", "most"] : List Str).length (argC (var 0) argN) (argC (ret (.int 0)) (argC (ret (.int 1000000000000000000000000000000)) argN)))))
noncomputable def m_need_amount : Fn := fnQ false 1 1 b_need_amount
set_option maxHeartbeats 4000000 in
theorem pr_need_amount (Z : Zt P K mg) : Pr P w K mg base 4 "need_amount" "need_amount" s_need_amount ["value"] m_need_amount :=
  prF (pr_mk sc_need_amount (by decide) fun f cdv A outer s H E n hgd hr tk ow => by
    have nd := sc_need_amount.nd
    have hu := roomU hr
    have DK_need_integer_1_least_most := dfk_row (pr_need_integer (P := P) (w := w) (base := base) Z) Z.fk_need_integer_1_least_most rfl
    obtain ⟨_, h_COINS⟩ := Z.gi_COINS
    exact (bone (sexpr (xcallK n DK_need_integer_1_least_most hgd hr tk (by decide) (acons (xv 0) anil) (akC xint (akC (xgI h_COINS) akN))))))
/-! ### Office.result: 0 self, 1 coins, 2 p, 3 q -/
theorem sc_Office_result : FnScope ["self", "coins", "p", "q"] ["self", "coins"] (defScope s_Office_result) := ⟨rfl, rfl, rfl, by decide +kernel, rfl, by decide +kernel, by decide +kernel⟩
noncomputable def b_Office_result (n : Nat) : M Fl :=
  (seqM (ifM (asB (bin (var 1) (bnd (var 0) (fldM ["Office", "CappedOffice"] "own_least")) opLt)) (retM (ret .non)) skipM)
    (seqM (unpM [2, 3] (bnd (var 0) (fldM ["Office", "CappedOffice"] "own_rate")))
    (retM (bin (ret (.int 0)) (bin (bin (bin (var 1) (var 2) opMul) (var 3) opDiv) (bnd (var 0) (fldM ["Office", "CappedOffice"] "own_fee")) opSub) opMax))))
noncomputable def m_Office_result : Fn := fnQ false 2 4 b_Office_result
set_option maxHeartbeats 4000000 in
theorem pr_Office_result (Z : Zt P K mg) : Pr P w K mg base 1 "result" "Office.result" s_Office_result ["self", "coins"] m_Office_result :=
  prF (pr_mk sc_Office_result (by decide) fun f cdv A outer s H E n hgd hr tk ow => by
    have nd := sc_Office_result.nd
    have hu := roomU hr
    exact (bcons (sif (tcmp k_lt (xv 1) (xfld Z.fo_own_least (xv 0))) (bone (sret xnon)) bnil)
    (bcons (sunp [2, 3] rfl (xfld Z.fo_own_rate (xv 0)) (pgs_cons (gn 2 nd) (pgs_cons (gn 3 nd) pgs_nil)))
    (bone (sret (xmax2 rfl Z.b_max xint (xsub (xfdiv (xmul (xv 1) (xv 2)) (xv 3)) (xfld Z.fo_own_fee (xv 0)))))))))
noncomputable def ts_CappedOffice_result_2 : List (Str × Fn) := [("CappedOffice", m_Office_result)]
theorem Tts_CappedOffice_result_2 (Z : Zt P K mg) {D : Addr} (hD : ClsAt K "CappedOffice" D) : SupTab P w K mg base 1 D "result" 2 2 [] ts_CappedOffice_result_2 := (supC hD (pr_Office_result Z) Z.su_CappedOffice_CappedOffice_result_2 (by decide) rfl sup0)
/-! ### CappedOffice.result: 0 self, 1 coins, 2 __class__ -/
theorem sc_CappedOffice_result : NScope ["self", "coins", "__class__"] ["self", "coins"] ["__class__"] (defScope s_CappedOffice_result) := nscope_by (by decide +kernel)
noncomputable def b_CappedOffice_result (n : Nat) : M Fl :=
  (seqM (retM (supM ts_CappedOffice_result_2 n (appA 1 ([] : List Str).length (argC (bin (var 1) (bnd (var 0) (fldM ["CappedOffice"] "own_most")) opMin) argN) argN)))
    skipM)
noncomputable def m_CappedOffice_result : Fn := fnQ false 2 3 b_CappedOffice_result
set_option maxHeartbeats 4000000 in
theorem pr_CappedOffice_result (Z : Zt P K mg) : PrS P w K mg base 2 "result" "CappedOffice.result" "CappedOffice" s_CappedOffice_result ["self", "coins"] m_CappedOffice_result :=
  prsF (prs_mk sc_CappedOffice_result (by decide) fun f cc cda D S1 hD A outer s H E n hgd hr tk ow => by
    have nd := sc_CappedOffice_result.nd
    have hu := roomU hr
    have SX := supX_of (P := P) (w := w) (base := base) (N := ["self", "coins", "__class__"]) (x := "result") (qual := "CappedOffice.result") (st := s_CappedOffice_result) (A := A) (outer := outer) (s := s) (H := H) (E := E) S1 rfl rfl rfl rfl
    have Hts_CappedOffice_result_2 := Tts_CappedOffice_result_2 (P := P) (w := w) (base := base) Z hD
    exact (acons1 (aret (asup n Hts_CappedOffice_result_2 SX hgd hr tk (by decide) (acons (xmin2 rfl Z.b_min (xv 1) (xfld Z.fo_own_most (xv 0))) anil) akN))
    bnil))
noncomputable def tm_result_2 : List (Str × Fn) := [("Office", m_Office_result), ("CappedOffice", m_CappedOffice_result)]
theorem Ttm_result_2 (Z : Zt P K mg) : TabOk P w K mg base 2 "result" 2 2 [] tm_result_2 := (tabC (mrow (pr_Office_result Z) Z.me_Office_result_2 (by decide) rfl) (tabC (mrowS (pr_CappedOffice_result Z) Z.me_CappedOffice_result_2 (by decide) rfl) tab0))
theorem sc_Closed_init : FnScope ["self", "name"] ["self", "name"] (defScope s_Closed_init) := ⟨rfl, rfl, rfl, by decide +kernel, rfl, by decide +kernel, by decide +kernel⟩
theorem ek_Closed (Z : Zt P K mg) : ExK P w K mg base 1 "Closed" "name" := by
  obtain ⟨C, fI, fd, h1, h2, T, h3, h4, h5, F, hb, vV⟩ := Z.ex_Closed
  exact ⟨C, fI, fd, ["self", "name"], _, _, _, _, h1, h2, T, h3, h4, fn_initB F sc_Closed_init T h5 rfl fun cdv A outer s H E => pss_cons (ps_expr (pe_binit rfl Z.b_RuntimeError rfl rfl rfl vV rfl (pa_cons (pv 0) (pa_cons pe_str pa_nil)))) (pss_one (ps_ostB (pv 0) (pv 1))), hb⟩
/-! ### Office.__call__: 0 self, 1 amount, 2 found -/
theorem sc_Office_call : FnScope ["self", "amount", "found"] ["self", "amount"] (defScope s_Office_call) := ⟨rfl, rfl, rfl, by decide +kernel, rfl, by decide +kernel, by decide +kernel⟩
noncomputable def b_Office_call (n : Nat) : M Fl :=
  (seqM (dropM (callM m_need_amount n (argC (var 1) argN)))
    (seqM (asgM 2 (methM tm_result_2 n "result" (var 0) (appA 1 ([] : List Str).length (argC (var 1) argN) argN)))
    (seqM (ifM (asB (isN false (var 2))) (raiseM "Closed" "name" (bnd (var 0) (fldM ["Office", "CappedOffice"] "name"))) skipM)
    (retM (var 2)))))
noncomputable def m_Office_call : Fn := fnQ false 2 3 b_Office_call
set_option maxHeartbeats 4000000 in
theorem pr_Office_call (Z : Zt P K mg) : Pr P w K mg base 5 "__call__" "Office.__call__" s_Office_call ["self", "amount"] m_Office_call :=
  prF (pr_mk sc_Office_call (by decide) fun f cdv A outer s H E n hgd hr tk ow => by
    have nd := sc_Office_call.nd
    have hu := roomU hr
    have D_need_amount := df_row (pr_need_amount (P := P) (w := w) (base := base) Z) Z.fn_need_amount rfl
    have Htm_result_2 := Ttm_result_2 (P := P) (w := w) (base := base) Z
    have EK_Closed := ek_Closed (P := P) (w := w) (base := base) Z
    exact (bcons (sexpr (xdef n D_need_amount hgd hr tk (by decide) (acons (xv 1) anil)))
    (bcons (sset 2 nd (xmeth n Htm_result_2 hgd hr tk (by decide) (xv 0) (acons (xv 1) anil) akN))
    (bcons (sif (tisN (xv 2)) (bone (sraise EK_Closed rfl hgd hr tk (by decide) (xfld Z.fo_name (xv 0)))) bnil)
    (bone (sret (xv 2)))))))
noncomputable def ti_2 : List (Str × Fn) := [("Office", m_Office_call), ("CappedOffice", m_Office_call)]
theorem Tti_2 (Z : Zt P K mg) : InsTab P w K mg base 5 2 2 ti_2 := (insC (pr_Office_call Z) Z.in_Office_2 (by decide) rfl (insC (pr_Office_call Z) Z.in_CappedOffice_2 (by decide) rfl ins0))
/-! ### Office.is_open: 0 self, 1 amount -/
theorem sc_Office_is_open : FnScope ["self", "amount"] ["self", "amount"] (defScope s_Office_is_open) := ⟨rfl, rfl, rfl, by decide +kernel, rfl, by decide +kernel, by decide +kernel⟩
noncomputable def b_Office_is_open (n : Nat) : M Fl :=
  (seqM (dropM (callM m_need_amount n (argC (var 1) argN)))
    (retM (bin (var 1) (bnd (var 0) (fldM ["Office", "CappedOffice"] "own_least")) opGe)))
noncomputable def m_Office_is_open : Fn := fnQ false 2 2 b_Office_is_open
set_option maxHeartbeats 4000000 in
theorem pr_Office_is_open (Z : Zt P K mg) : Pr P w K mg base 5 "is_open" "Office.is_open" s_Office_is_open ["self", "amount"] m_Office_is_open :=
  prF (pr_mk sc_Office_is_open (by decide) fun f cdv A outer s H E n hgd hr tk ow => by
    have nd := sc_Office_is_open.nd
    have hu := roomU hr
    have D_need_amount := df_row (pr_need_amount (P := P) (w := w) (base := base) Z) Z.fn_need_amount rfl
    exact (bcons (sexpr (xdef n D_need_amount hgd hr tk (by decide) (acons (xv 1) anil)))
    (bone (sret (xcmp k_ge (xv 1) (xfld Z.fo_own_least (xv 0)))))))
noncomputable def tm_is_open_2 : List (Str × Fn) := [("Office", m_Office_is_open), ("CappedOffice", m_Office_is_open)]
theorem Ttm_is_open_2 (Z : Zt P K mg) : TabOk P w K mg base 5 "is_open" 2 2 [] tm_is_open_2 := (tabC (mrow (pr_Office_is_open Z) Z.me_Office_is_open_2 (by decide) rfl) (tabC (mrow (pr_Office_is_open Z) Z.me_CappedOffice_is_open_2 (by decide) rfl) tab0))
/-! ### Office.most: 0 self -/
theorem sc_Office_most : FnScope ["self"] ["self"] (defScope s_Office_most) := ⟨rfl, rfl, rfl, by decide +kernel, rfl, by decide +kernel, by decide +kernel⟩
noncomputable def b_Office_most (n : Nat) : M Fl :=
  (retM (ret .non))
noncomputable def m_Office_most : Fn := fnQ false 1 1 b_Office_most
set_option maxHeartbeats 4000000 in
theorem pr_Office_most (Z : Zt P K mg) : Pr P w K mg base 1 "most" "Office.most" s_Office_most ["self"] m_Office_most :=
  prF (pr_mk sc_Office_most (by decide) fun f cdv A outer s H E n hgd hr tk ow => by
    have nd := sc_Office_most.nd
    have hu := roomU hr
    exact (bone (sret xnon)))
/-! ### CappedOffice.most: 0 self -/
theorem sc_CappedOffice_most : FnScope ["self"] ["self"] (defScope s_CappedOffice_most) := ⟨rfl, rfl, rfl, by decide +kernel, rfl, by decide +kernel, by decide +kernel⟩
noncomputable def b_CappedOffice_most (n : Nat) : M Fl :=
  (retM (bnd (var 0) (fldM ["CappedOffice"] "own_most")))
noncomputable def m_CappedOffice_most : Fn := fnQ false 1 1 b_CappedOffice_most
set_option maxHeartbeats 4000000 in
theorem pr_CappedOffice_most (Z : Zt P K mg) : Pr P w K mg base 1 "most" "CappedOffice.most" s_CappedOffice_most ["self"] m_CappedOffice_most :=
  prF (pr_mk sc_CappedOffice_most (by decide) fun f cdv A outer s H E n hgd hr tk ow => by
    have nd := sc_CappedOffice_most.nd
    have hu := roomU hr
    exact (bone (sret (xfld Z.fo_own_most (xv 0)))))
noncomputable def tp_most : List (Str × Fn) := [("Office", m_Office_most), ("CappedOffice", m_CappedOffice_most)]
theorem Ttp_most (Z : Zt P K mg) : PropTab P w K mg base 1 "most" tp_most := (prpC (pr_Office_most Z) Z.pp_Office_most (by decide) rfl (prpC (pr_CappedOffice_most Z) Z.pp_CappedOffice_most (by decide) rfl prp0))
/-! ### Office.least: 0 self -/
theorem sc_Office_least : FnScope ["self"] ["self"] (defScope s_Office_least) := ⟨rfl, rfl, rfl, by decide +kernel, rfl, by decide +kernel, by decide +kernel⟩
noncomputable def b_Office_least (n : Nat) : M Fl :=
  (retM (bnd (var 0) (fldM ["Office", "CappedOffice"] "own_least")))
noncomputable def m_Office_least : Fn := fnQ false 1 1 b_Office_least
set_option maxHeartbeats 4000000 in
theorem pr_Office_least (Z : Zt P K mg) : Pr P w K mg base 1 "least" "Office.least" s_Office_least ["self"] m_Office_least :=
  prF (pr_mk sc_Office_least (by decide) fun f cdv A outer s H E n hgd hr tk ow => by
    have nd := sc_Office_least.nd
    have hu := roomU hr
    exact (bone (sret (xfld Z.fo_own_least (xv 0)))))
noncomputable def tp_least : List (Str × Fn) := [("Office", m_Office_least), ("CappedOffice", m_Office_least)]
theorem Ttp_least (Z : Zt P K mg) : PropTab P w K mg base 1 "least" tp_least := (prpC (pr_Office_least Z) Z.pp_Office_least (by decide) rfl (prpC (pr_Office_least Z) Z.pp_CappedOffice_least (by decide) rfl prp0))
/-! ### Office.fee: 0 self -/
theorem sc_Office_fee : FnScope ["self"] ["self"] (defScope s_Office_fee) := ⟨rfl, rfl, rfl, by decide +kernel, rfl, by decide +kernel, by decide +kernel⟩
noncomputable def b_Office_fee (n : Nat) : M Fl :=
  (retM (bnd (var 0) (fldM ["Office", "CappedOffice"] "own_fee")))
noncomputable def m_Office_fee : Fn := fnQ false 1 1 b_Office_fee
set_option maxHeartbeats 4000000 in
theorem pr_Office_fee (Z : Zt P K mg) : Pr P w K mg base 1 "fee" "Office.fee" s_Office_fee ["self"] m_Office_fee :=
  prF (pr_mk sc_Office_fee (by decide) fun f cdv A outer s H E n hgd hr tk ow => by
    have nd := sc_Office_fee.nd
    have hu := roomU hr
    exact (bone (sret (xfld Z.fo_own_fee (xv 0)))))
noncomputable def tp_fee : List (Str × Fn) := [("Office", m_Office_fee), ("CappedOffice", m_Office_fee)]
theorem Ttp_fee (Z : Zt P K mg) : PropTab P w K mg base 1 "fee" tp_fee := (prpC (pr_Office_fee Z) Z.pp_Office_fee (by decide) rfl (prpC (pr_Office_fee Z) Z.pp_CappedOffice_fee (by decide) rfl prp0))
/-! ### Office.rate: 0 self -/
theorem sc_Office_rate : FnScope ["self"] ["self"] (defScope s_Office_rate) := ⟨rfl, rfl, rfl, by decide +kernel, rfl, by decide +kernel, by decide +kernel⟩
noncomputable def b_Office_rate (n : Nat) : M Fl :=
  (retM (bnd (var 0) (fldM ["Office", "CappedOffice"] "own_rate")))
noncomputable def m_Office_rate : Fn := fnQ false 1 1 b_Office_rate
set_option maxHeartbeats 4000000 in
theorem pr_Office_rate (Z : Zt P K mg) : Pr P w K mg base 1 "rate" "Office.rate" s_Office_rate ["self"] m_Office_rate :=
  prF (pr_mk sc_Office_rate (by decide) fun f cdv A outer s H E n hgd hr tk ow => by
    have nd := sc_Office_rate.nd
    have hu := roomU hr
    exact (bone (sret (xfld Z.fo_own_rate (xv 0)))))
noncomputable def tp_rate : List (Str × Fn) := [("Office", m_Office_rate), ("CappedOffice", m_Office_rate)]
theorem Ttp_rate (Z : Zt P K mg) : PropTab P w K mg base 1 "rate" tp_rate := (prpC (pr_Office_rate Z) Z.pp_Office_rate (by decide) rfl (prpC (pr_Office_rate Z) Z.pp_CappedOffice_rate (by decide) rfl prp0))
/-! ### Office.goal: 0 self -/
theorem sc_Office_goal : FnScope ["self"] ["self"] (defScope s_Office_goal) := ⟨rfl, rfl, rfl, by decide +kernel, rfl, by decide +kernel, by decide +kernel⟩
noncomputable def b_Office_goal (n : Nat) : M Fl :=
  (retM (bin (bnd (var 0) (fldM ["Office", "CappedOffice"] "own_ends")) (ret (.int 1)) opIx))
noncomputable def m_Office_goal : Fn := fnQ false 1 1 b_Office_goal
set_option maxHeartbeats 4000000 in
theorem pr_Office_goal (Z : Zt P K mg) : Pr P w K mg base 1 "goal" "Office.goal" s_Office_goal ["self"] m_Office_goal :=
  prF (pr_mk sc_Office_goal (by decide) fun f cdv A outer s H E n hgd hr tk ow => by
    have nd := sc_Office_goal.nd
    have hu := roomU hr
    exact (bone (sret (xix (xfld Z.fo_own_ends (xv 0)) xint))))
noncomputable def tp_goal : List (Str × Fn) := [("Office", m_Office_goal), ("CappedOffice", m_Office_goal)]
theorem Ttp_goal (Z : Zt P K mg) : PropTab P w K mg base 1 "goal" tp_goal := (prpC (pr_Office_goal Z) Z.pp_Office_goal (by decide) rfl (prpC (pr_Office_goal Z) Z.pp_CappedOffice_goal (by decide) rfl prp0))
/-! ### Office.source: 0 self -/
theorem sc_Office_source : FnScope ["self"] ["self"] (defScope s_Office_source) := ⟨rfl, rfl, rfl, by decide +kernel, rfl, by decide +kernel, by decide +kernel⟩
noncomputable def b_Office_source (n : Nat) : M Fl :=
  (retM (bin (bnd (var 0) (fldM ["Office", "CappedOffice"] "own_ends")) (ret (.int 0)) opIx))
noncomputable def m_Office_source : Fn := fnQ false 1 1 b_Office_source
set_option maxHeartbeats 4000000 in
theorem pr_Office_source (Z : Zt P K mg) : Pr P w K mg base 1 "source" "Office.source" s_Office_source ["self"] m_Office_source :=
  prF (pr_mk sc_Office_source (by decide) fun f cdv A outer s H E n hgd hr tk ow => by
    have nd := sc_Office_source.nd
    have hu := roomU hr
    exact (bone (sret (xix (xfld Z.fo_own_ends (xv 0)) xint))))
noncomputable def tp_source : List (Str × Fn) := [("Office", m_Office_source), ("CappedOffice", m_Office_source)]
theorem Ttp_source (Z : Zt P K mg) : PropTab P w K mg base 1 "source" tp_source := (prpC (pr_Office_source Z) Z.pp_Office_source (by decide) rfl (prpC (pr_Office_source Z) Z.pp_CappedOffice_source (by decide) rfl prp0))
/-! ### _law_values: 0 _law_office, 1 _law_values_here -/
theorem sc_law_values : FnScope ["_law_office", "_law_values_here"] ["_law_office"] (defScope s_law_values) := ⟨rfl, rfl, rfl, by decide +kernel, rfl, by decide +kernel, by decide +kernel⟩
noncomputable def b_law_values (n : Nat) : M Fl :=
  (seqM (asgM 1 (tupM (argC (bnd (var 0) (fldM ["Office", "CappedOffice"] "name")) (argC (bnd (var 0) (propM tp_source n)) (argC (bnd (var 0) (propM tp_goal n)) (argC (bnd (var 0) (propM tp_rate n)) (argC (bnd (var 0) (propM tp_fee n)) (argC (bnd (var 0) (propM tp_least n)) (argC (bnd (var 0) (propM tp_most n)) argN)))))))))
    (retM (tupM (argC (bnd (var 0) (isoM [("Office", false), ("CappedOffice", true)])) (argC (var 1) argN)))))
noncomputable def m_law_values : Fn := fnQ false 1 2 b_law_values
set_option maxHeartbeats 4000000 in
theorem pr_law_values (Z : Zt P K mg) : Pr P w K mg base 3 "_law_values" "_law_values" s_law_values ["_law_office"] m_law_values :=
  prF (pr_mk sc_law_values (by decide) fun f cdv A outer s H E n hgd hr tk ow => by
    have nd := sc_law_values.nd
    have hu := roomU hr
    have Htp_most := Ttp_most (P := P) (w := w) (base := base) Z
    have Htp_least := Ttp_least (P := P) (w := w) (base := base) Z
    have Htp_fee := Ttp_fee (P := P) (w := w) (base := base) Z
    have Htp_rate := Ttp_rate (P := P) (w := w) (base := base) Z
    have Htp_goal := Ttp_goal (P := P) (w := w) (base := base) Z
    have Htp_source := Ttp_source (P := P) (w := w) (base := base) Z
    obtain ⟨_, im_CappedOffice, it_CappedOffice⟩ := Z.is_CappedOffice
    exact (bcons (sset 1 nd (xtup (acons (xfld Z.fo_name (xv 0)) (acons (xprop n Htp_source hgd hr (by decide) (xv 0)) (acons (xprop n Htp_goal hgd hr (by decide) (xv 0)) (acons (xprop n Htp_rate hgd hr (by decide) (xv 0)) (acons (xprop n Htp_fee hgd hr (by decide) (xv 0)) (acons (xprop n Htp_least hgd hr (by decide) (xv 0)) (acons (xprop n Htp_most hgd hr (by decide) (xv 0)) anil)))))))))
    (bone (sret (xtup (acons (xiso it_CappedOffice im_CappedOffice Z.b_isinstance (xv 0)) (acons (xv 1) anil)))))))
/-! ### law: 0 _law_script, 1 _law_pen_here, 2 _law_turn, 3 _law_names_here, 4 _law_row_here, 5 _law_office, 6 _law_again, 7 _law_value, 8 _law_due_here, 9 _law_twice, 10 _law_told_here -/
theorem sc_law : FnScope ["_law_script", "_law_pen_here", "_law_turn", "_law_names_here", "_law_row_here", "_law_office", "_law_again", "_law_value", "_law_due_here", "_law_twice", "_law_told_here"] ["_law_script"] (defScope s_law) := ⟨rfl, rfl, rfl, by decide +kernel, rfl, by decide +kernel, by decide +kernel⟩
noncomputable def b_law (n : Nat) : M Fl :=
  (seqM (asgM 1 (callM m_law_pen n (argC (var 0) argN)))
    (seqM (loopM (rngM (ret (.int 10))) 2 (seqM (asgM 3 (callM m_law_names n (argC (var 1) (argC (ret (.int 3)) argN))))
    (seqM (asgM 4 (callM m_law_row n (argC (var 1) (argC (bin (var 3) (ret (.int 0)) opIx) (argC (bin (var 3) (ret (.int 1)) opIx) (argC (bin (var 3) (callM m_law_draw n (argC (var 1) (argC (ret (.int 3)) argN))) opIx) argN))))))
    (seqM (asgM 5 (callM m_law_made n (argC (var 4) argN)))
    (seqM (loopM (rngM (ret (.int 6))) 6 (seqM (asgM 7 (iteT (asB (bin (callM m_law_draw n (argC (var 1) (argC (ret (.int 5)) argN))) (ret (.int 0)) opEq)) (callM m_law_any n (argC (var 1) argN)) (callM m_law_amount n (argC (var 1) (argC (var 4) argN)))))
    (seqM (asgM 8 (callM m_law_due n (argC (var 4) (argC (var 7) argN))))
    (loopM (rngM (ret (.int 2))) 9 (seqM (ifM (asB (bin (bnd (lamM argN [5, 7] "law.<locals>.<lambda>" (fnM 2 2 fun n => retM (insM ti_2 n (var 0) (bnd (argC (var 1) argN) fun ds => if ds.length = 1 then ret ds else stuck))) m_law_told n) fRepr) (bnd (var 8) fRepr) opNe)) (retM (ret (.bl false))) skipM)
    (seqM (asgM 10 (lamM argN [7, 5] "law.<locals>.<lambda>" (fnM 2 2 fun n => retM (methM tm_is_open_2 n "is_open" (var 1) (appA 1 ([] : List Str).length (argC (var 0) argN) argN))) m_law_told n))
    (ifM (asB (bin (bnd (var 10) fRepr) (bnd (iteT (asB (bin (bin (var 8) (ret (.int 0)) opIx) (ret (.str "number")) opEq)) (var 8) (tupM (argC (ret (.str "told")) (argC (bin (bin (var 8) (ret (.int 0)) opIx) (ret (.str "told")) opEq) argN)))) fRepr) opNe)) (retM (ret (.bl false))) skipM)))))))
    (ifM (asB (bin (bnd (callM m_law_values n (argC (var 5) argN)) fRepr) (bnd (tupM (argC (isN true (bin (var 4) (ret (.int 6)) opIx)) (argC (var 4) argN))) fRepr) opNe)) (retM (ret (.bl false))) skipM))))))
    (retM (ret (.bl true)))))
noncomputable def m_law : Fn := fnQ false 1 11 b_law
set_option maxHeartbeats 4000000 in
theorem pr_law (Z : Zt P K mg) : PrL P w K mg base 8 "law" "law" "law.<locals>.<lambda>" s_law ["_law_script"] m_law :=
  prlF (prl_mk sc_law (by decide) fun f cdv A outer s H E n hgd hr tk ow LF => by
    have nd := sc_law.nd
    have hu := roomU hr
    have D_law_pen := df_row (pr_law_pen (P := P) (w := w) (base := base) Z) Z.fn_law_pen rfl
    have D_law_names := df_row (pr_law_names (P := P) (w := w) (base := base) Z) Z.fn_law_names rfl
    have D_law_row := df_row (pr_law_row (P := P) (w := w) (base := base) Z) Z.fn_law_row rfl
    have D_law_draw := df_row (pr_law_draw (P := P) (w := w) (base := base) Z) Z.fn_law_draw rfl
    have D_law_made := df_row (pr_law_made (P := P) (w := w) (base := base) Z) Z.fn_law_made rfl
    have D_law_any := df_row (pr_law_any (P := P) (w := w) (base := base) Z) Z.fn_law_any rfl
    have D_law_amount := df_row (pr_law_amount (P := P) (w := w) (base := base) Z) Z.fn_law_amount rfl
    have D_law_due := df_row (pr_law_due (P := P) (w := w) (base := base) Z) Z.fn_law_due rfl
    have Hti_2 := Tti_2 (P := P) (w := w) (base := base) Z
    have Htm_is_open_2 := Ttm_is_open_2 (P := P) (w := w) (base := base) Z
    have D_law_values := df_row (pr_law_values (P := P) (w := w) (base := base) Z) Z.fn_law_values rfl
    exact (bcons (sset 1 nd (xdef n D_law_pen hgd hr tk (by decide) (acons (xv 0) anil)))
    (bcons (sfor 2 rfl nd ow (irng Z.b_range xint) src_rng (bcons (sset 3 nd (xdef n D_law_names hgd hr tk (by decide) (acons (xv 1) (acons xint anil))))
    (bcons (sset 4 nd (xdef n D_law_row hgd hr tk (by decide) (acons (xv 1) (acons (xix (xv 3) xint) (acons (xix (xv 3) xint) (acons (xix (xv 3) (xdef n D_law_draw hgd hr tk (by decide) (acons (xv 1) (acons xint anil)))) anil))))))
    (bcons (sset 5 nd (xdef n D_law_made hgd hr tk (by decide) (acons (xv 4) anil)))
    (bcons (sfor 6 rfl nd ow (irng Z.b_range xint) src_rng (bcons (sset 7 nd (xif (tcmp (k_eq hu) (xdef n D_law_draw hgd hr tk (by decide) (acons (xv 1) (acons xint anil))) xint) (xdef n D_law_any hgd hr tk (by decide) (acons (xv 1) anil)) (xdef n D_law_amount hgd hr tk (by decide) (acons (xv 1) (acons (xv 4) anil)))))
    (bcons (sset 8 nd (xdef n D_law_due hgd hr tk (by decide) (acons (xv 4) (acons (xv 7) anil))))
    (bone (sfor 9 rfl nd ow (irng Z.b_range xint) src_rng (bcons (sif (tcmp (k_ne hu) (xrepr hgd hu Z.b_repr (xlamT n "law.<locals>.<lambda>" ["_law_office", "_law_value"] [5, 7] ["_law_office", "_law_value"] ["_law_script", "_law_pen_here", "_law_turn", "_law_names_here", "_law_row_here", "_law_office", "_law_again", "_law_value", "_law_due_here", "_law_twice", "_law_told_here"] (defScope s_law) 5 2 2 (fun φ o hq => dfc_row (pr_law_told (P := P) (w := w) (base := base) Z (o.mono (by decide)) hq rfl) Z.fn_law_told rfl) (by first | exact LF | exact LF.tr | exact LF.tr.tr) hgd hr tk (by decide) (by kernel_rfl) (by kernel_rfl) rfl rfl (fun A outer s H E f c cl n hgd hr tk ow => by
    have hu := roomU hr
    exact (xins n Hti_2 hgd hr tk (by decide) (xv 0) (acons (xv 1) anil))))) (xrepr hgd hu Z.b_repr (xv 8))) (bone (sret xbl)) bnil)
    (bcons (sset 10 nd (xlamT n "law.<locals>.<lambda>" ["_law_value", "_law_office"] [7, 5] ["_law_value", "_law_office"] ["_law_script", "_law_pen_here", "_law_turn", "_law_names_here", "_law_row_here", "_law_office", "_law_again", "_law_value", "_law_due_here", "_law_twice", "_law_told_here"] (defScope s_law) 5 2 2 (fun φ o hq => dfc_row (pr_law_told (P := P) (w := w) (base := base) Z (o.mono (by decide)) hq rfl) Z.fn_law_told rfl) (by first | exact LF | exact LF.tr | exact LF.tr.tr) hgd hr tk (by decide) (by kernel_rfl) (by kernel_rfl) rfl rfl (fun A outer s H E f c cl n hgd hr tk ow => by
    have hu := roomU hr
    exact (xmeth n Htm_is_open_2 hgd hr tk (by decide) (xv 1) (acons (xv 0) anil) akN))))
    (bone (sif (tcmp (k_ne hu) (xrepr hgd hu Z.b_repr (xv 10)) (xrepr hgd hu Z.b_repr (xif (tcmp (k_eq hu) (xix (xv 8) xint) xstr) (xv 8) (xtup (acons xstr (acons (xcmp (k_eq hu) (xix (xv 8) xint) xstr) anil)))))) (bone (sret xbl)) bnil)))))))))
    (bone (sif (tcmp (k_ne hu) (xrepr hgd hu Z.b_repr (xdef n D_law_values hgd hr tk (by decide) (acons (xv 5) anil))) (xrepr hgd hu Z.b_repr (xtup (acons (xnotN (xix (xv 4) xint)) (acons (xv 4) anil))))) (bone (sret xbl)) bnil)))))))
    (bone (sret xbl)))))
end
set_option maxHeartbeats 0 in
theorem all_mk {l : PySem.W.OpenLaw} {w : World} {K : PySem.W.Frag} {h : Heap} {mg : Str → Option Value} {fa : Addr} (X : K.In h) (G : h.Ns mainGlobals mg) (hfa : mg "law" = some (.ref fa))
    {f_law_pen : Addr} {oc_law_pen : Value} {od_law_pen : Option Addr} {an_law_pen : Option Addr} {sl_law_pen : Array (Option Value)} {kV_law_pen : Value} {dc_law_pen : Value} {pm_law_pen : Value} {cd_law_pen : Value} {ct_law_pen : Value} {f_law_draw : Addr} {oc_law_draw : Value} {od_law_draw : Option Addr} {an_law_draw : Option Addr} {sl_law_draw : Array (Option Value)} {kV_law_draw : Value} {dc_law_draw : Value} {pm_law_draw : Value} {cd_law_draw : Value} {ct_law_draw : Value} {f_law_pick : Addr} {oc_law_pick : Value} {od_law_pick : Option Addr} {an_law_pick : Option Addr} {sl_law_pick : Array (Option Value)} {kV_law_pick : Value} {dc_law_pick : Value} {pm_law_pick : Value} {cd_law_pick : Value} {ct_law_pick : Value} {f_law_names : Addr} {oc_law_names : Value} {od_law_names : Option Addr} {an_law_names : Option Addr} {sl_law_names : Array (Option Value)} {kV_law_names : Value} {dc_law_names : Value} {pm_law_names : Value} {cd_law_names : Value} {ct_law_names : Value} {f_law_digits : Addr} {oc_law_digits : Value} {od_law_digits : Option Addr} {an_law_digits : Option Addr} {sl_law_digits : Array (Option Value)} {kV_law_digits : Value} {dc_law_digits : Value} {pm_law_digits : Value} {cd_law_digits : Value} {ct_law_digits : Value} {f_law_row : Addr} {oc_law_row : Value} {od_law_row : Option Addr} {an_law_row : Option Addr} {sl_law_row : Array (Option Value)} {kV_law_row : Value} {dc_law_row : Value} {pm_law_row : Value} {cd_law_row : Value} {ct_law_row : Value} {tg_ALPHABET : Tok} {tg_LETTERS : Tok} {f_is_name : Addr} {oc_is_name : Value} {od_is_name : Option Addr} {an_is_name : Option Addr} {sl_is_name : Array (Option Value)} {kV_is_name : Value} {dc_is_name : Value} {pm_is_name : Value} {cd_is_name : Value} {ct_is_name : Value} {f_need_name : Addr} {oc_need_name : Value} {od_need_name : Option Addr} {an_need_name : Option Addr} {sl_need_name : Array (Option Value)} {kV_need_name : Value} {dc_need_name : Value} {pm_need_name : Value} {cd_need_name : Value} {ct_need_name : Value} {f_is_integer : Addr} {oc_is_integer : Value} {od_is_integer : Option Addr} {an_is_integer : Option Addr} {sl_is_integer : Array (Option Value)} {kV_is_integer : Value} {dc_is_integer : Value} {pm_is_integer : Value} {cd_is_integer : Value} {ct_is_integer : Value} {C_Office : Addr} {tv_Office_RATE : Tok} {f_is_rate : Addr} {oc_is_rate : Value} {od_is_rate : Option Addr} {an_is_rate : Option Addr} {sl_is_rate : Array (Option Value)} {kV_is_rate : Value} {dc_is_rate : Value} {pm_is_rate : Value} {cd_is_rate : Value} {ct_is_rate : Value} {f_InvalidNumber_init : Addr} {oc_InvalidNumber_init : Value} {od_InvalidNumber_init : Option Addr} {an_InvalidNumber_init : Option Addr} {sl_InvalidNumber_init : Array (Option Value)} {kV_InvalidNumber_init : Value} {dc_InvalidNumber_init : Value} {pm_InvalidNumber_init : Value} {cd_InvalidNumber_init : Value} {ct_InvalidNumber_init : Value} {C_InvalidNumber : Addr} {f_need_integer : Addr} {oc_need_integer : Value} {od_need_integer : Option Addr} {an_need_integer : Option Addr} {sl_need_integer : Array (Option Value)} {kV_need_integer : Value} {dc_need_integer : Value} {pm_need_integer : Value} {cd_need_integer : Value} {ct_need_integer : Value} {C_CappedOffice : Addr} {tk_CappedOffice_FEE : Tok} {tk_Office_FEE : Tok} {tk_CappedOffice_LEAST : Tok} {tk_Office_LEAST : Tok} {f_Office_init : Addr} {oc_Office_init : Value} {od_Office_init : Option Addr} {an_Office_init : Option Addr} {sl_Office_init : Array (Option Value)} {kV_Office_init : Value} {dc_Office_init : Value} {pm_Office_init : Value} {cd_Office_init : Value} {ct_Office_init : Value} {tk_CappedOffice_MOST : Tok} {f_CappedOffice_init : Addr} {cc_CappedOffice_init : Addr} {cda_CappedOffice_init : Addr} {oc_CappedOffice_init : Value} {od_CappedOffice_init : Option Addr} {an_CappedOffice_init : Option Addr} {sl_CappedOffice_init : Array (Option Value)} {kV_CappedOffice_init : Value} {dc_CappedOffice_init : Value} {pm_CappedOffice_init : Value} {ct_CappedOffice_init : Value} {oce_CappedOffice_init : Value} {ode_CappedOffice_init : Option Addr} {sle_CappedOffice_init : Array (Option Value)} {ocg_CappedOffice_init : Value} {odg_CappedOffice_init : Option Addr} {vsg_CappedOffice_init : Array Value} {slg_CappedOffice_init : Array (Option Value)} {fi_CappedOffice_init : Str} {tf_CappedOffice_init : Tok} {cdd_CappedOffice : ClassData} {f_law_made : Addr} {oc_law_made : Value} {od_law_made : Option Addr} {an_law_made : Option Addr} {sl_law_made : Array (Option Value)} {kV_law_made : Value} {dc_law_made : Value} {pm_law_made : Value} {cd_law_made : Value} {ct_law_made : Value} {f_law_any : Addr} {oc_law_any : Value} {od_law_any : Option Addr} {an_law_any : Option Addr} {sl_law_any : Array (Option Value)} {kV_law_any : Value} {dc_law_any : Value} {pm_law_any : Value} {cd_law_any : Value} {ct_law_any : Value} {f_law_amount : Addr} {oc_law_amount : Value} {od_law_amount : Option Addr} {an_law_amount : Option Addr} {sl_law_amount : Array (Option Value)} {kV_law_amount : Value} {dc_law_amount : Value} {pm_law_amount : Value} {cd_law_amount : Value} {ct_law_amount : Value} {f_law_is_integer : Addr} {oc_law_is_integer : Value} {od_law_is_integer : Option Addr} {an_law_is_integer : Option Addr} {sl_law_is_integer : Array (Option Value)} {kV_law_is_integer : Value} {dc_law_is_integer : Value} {pm_law_is_integer : Value} {cd_law_is_integer : Value} {ct_law_is_integer : Value} {f_law_result : Addr} {oc_law_result : Value} {od_law_result : Option Addr} {an_law_result : Option Addr} {sl_law_result : Array (Option Value)} {kV_law_result : Value} {dc_law_result : Value} {pm_law_result : Value} {cd_law_result : Value} {ct_law_result : Value} {f_law_due : Addr} {oc_law_due : Value} {od_law_due : Option Addr} {an_law_due : Option Addr} {sl_law_due : Array (Option Value)} {kV_law_due : Value} {dc_law_due : Value} {pm_law_due : Value} {cd_law_due : Value} {ct_law_due : Value} {C_Closed : Addr} {tg_COINS : Tok} {f_need_amount : Addr} {oc_need_amount : Value} {od_need_amount : Option Addr} {an_need_amount : Option Addr} {sl_need_amount : Array (Option Value)} {kV_need_amount : Value} {dc_need_amount : Value} {pm_need_amount : Value} {cd_need_amount : Value} {ct_need_amount : Value} {f_Office_result : Addr} {oc_Office_result : Value} {od_Office_result : Option Addr} {an_Office_result : Option Addr} {sl_Office_result : Array (Option Value)} {kV_Office_result : Value} {dc_Office_result : Value} {pm_Office_result : Value} {cd_Office_result : Value} {ct_Office_result : Value} {f_CappedOffice_result : Addr} {cc_CappedOffice_result : Addr} {cda_CappedOffice_result : Addr} {oc_CappedOffice_result : Value} {od_CappedOffice_result : Option Addr} {an_CappedOffice_result : Option Addr} {sl_CappedOffice_result : Array (Option Value)} {kV_CappedOffice_result : Value} {dc_CappedOffice_result : Value} {pm_CappedOffice_result : Value} {ct_CappedOffice_result : Value} {oce_CappedOffice_result : Value} {ode_CappedOffice_result : Option Addr} {sle_CappedOffice_result : Array (Option Value)} {ocg_CappedOffice_result : Value} {odg_CappedOffice_result : Option Addr} {vsg_CappedOffice_result : Array Value} {slg_CappedOffice_result : Array (Option Value)} {fi_CappedOffice_result : Str} {tf_CappedOffice_result : Tok} {f_Closed_init : Addr} {oc_Closed_init : Value} {od_Closed_init : Option Addr} {an_Closed_init : Option Addr} {sl_Closed_init : Array (Option Value)} {kV_Closed_init : Value} {dc_Closed_init : Value} {pm_Closed_init : Value} {cd_Closed_init : Value} {ct_Closed_init : Value} {f_Office_call : Addr} {oc_Office_call : Value} {od_Office_call : Option Addr} {an_Office_call : Option Addr} {sl_Office_call : Array (Option Value)} {kV_Office_call : Value} {dc_Office_call : Value} {pm_Office_call : Value} {cd_Office_call : Value} {ct_Office_call : Value} {f_law_told : Addr} {oc_law_told : Value} {od_law_told : Option Addr} {an_law_told : Option Addr} {sl_law_told : Array (Option Value)} {kV_law_told : Value} {dc_law_told : Value} {pm_law_told : Value} {cd_law_told : Value} {ct_law_told : Value} {f_Office_is_open : Addr} {oc_Office_is_open : Value} {od_Office_is_open : Option Addr} {an_Office_is_open : Option Addr} {sl_Office_is_open : Array (Option Value)} {kV_Office_is_open : Value} {dc_Office_is_open : Value} {pm_Office_is_open : Value} {cd_Office_is_open : Value} {ct_Office_is_open : Value} {p_CappedOffice_most : Addr} {pz_CappedOffice_most : List Value} {f_CappedOffice_most : Addr} {oc_CappedOffice_most : Value} {od_CappedOffice_most : Option Addr} {an_CappedOffice_most : Option Addr} {sl_CappedOffice_most : Array (Option Value)} {kV_CappedOffice_most : Value} {dc_CappedOffice_most : Value} {pm_CappedOffice_most : Value} {cd_CappedOffice_most : Value} {ct_CappedOffice_most : Value} {p_Office_most : Addr} {pz_Office_most : List Value} {f_Office_most : Addr} {oc_Office_most : Value} {od_Office_most : Option Addr} {an_Office_most : Option Addr} {sl_Office_most : Array (Option Value)} {kV_Office_most : Value} {dc_Office_most : Value} {pm_Office_most : Value} {cd_Office_most : Value} {ct_Office_most : Value} {p_Office_least : Addr} {pz_Office_least : List Value} {f_Office_least : Addr} {oc_Office_least : Value} {od_Office_least : Option Addr} {an_Office_least : Option Addr} {sl_Office_least : Array (Option Value)} {kV_Office_least : Value} {dc_Office_least : Value} {pm_Office_least : Value} {cd_Office_least : Value} {ct_Office_least : Value} {p_Office_fee : Addr} {pz_Office_fee : List Value} {f_Office_fee : Addr} {oc_Office_fee : Value} {od_Office_fee : Option Addr} {an_Office_fee : Option Addr} {sl_Office_fee : Array (Option Value)} {kV_Office_fee : Value} {dc_Office_fee : Value} {pm_Office_fee : Value} {cd_Office_fee : Value} {ct_Office_fee : Value} {p_Office_rate : Addr} {pz_Office_rate : List Value} {f_Office_rate : Addr} {oc_Office_rate : Value} {od_Office_rate : Option Addr} {an_Office_rate : Option Addr} {sl_Office_rate : Array (Option Value)} {kV_Office_rate : Value} {dc_Office_rate : Value} {pm_Office_rate : Value} {cd_Office_rate : Value} {ct_Office_rate : Value} {p_Office_goal : Addr} {pz_Office_goal : List Value} {f_Office_goal : Addr} {oc_Office_goal : Value} {od_Office_goal : Option Addr} {an_Office_goal : Option Addr} {sl_Office_goal : Array (Option Value)} {kV_Office_goal : Value} {dc_Office_goal : Value} {pm_Office_goal : Value} {cd_Office_goal : Value} {ct_Office_goal : Value} {p_Office_source : Addr} {pz_Office_source : List Value} {f_Office_source : Addr} {oc_Office_source : Value} {od_Office_source : Option Addr} {an_Office_source : Option Addr} {sl_Office_source : Array (Option Value)} {kV_Office_source : Value} {dc_Office_source : Value} {pm_Office_source : Value} {cd_Office_source : Value} {ct_Office_source : Value} {f_law_values : Addr} {oc_law_values : Value} {od_law_values : Option Addr} {an_law_values : Option Addr} {sl_law_values : Array (Option Value)} {kV_law_values : Value} {dc_law_values : Value} {pm_law_values : Value} {cd_law_values : Value} {ct_law_values : Value} {f_law : Addr} {oc_law : Value} {od_law : Option Addr} {an_law : Option Addr} {sl_law : Array (Option Value)} {kV_law : Value} {dc_law : Value} {pm_law : Value} {cd_law : Value} {ct_law : Value} {bmAd : Addr} {xa_InvalidNumber : Str} {xb_InvalidNumber : Str} {xd_InvalidNumber : Addr} {xe_InvalidNumber : _} {xf_InvalidNumber : _} {xg_InvalidNumber : _} {xh_InvalidNumber : _} {xj_InvalidNumber : _} {xk_InvalidNumber : _} {xl_InvalidNumber : _} {xm_InvalidNumber : _} {xo_InvalidNumber : _} {xp_InvalidNumber : _} {xr_InvalidNumber : _} {xa_Closed : Str} {xb_Closed : Str} {xd_Closed : Addr} {xe_Closed : _} {xf_Closed : _} {xg_Closed : _} {xh_Closed : _} {xj_Closed : _} {xk_Closed : _} {xl_Closed : _} {xm_Closed : _} {xo_Closed : _} {xp_Closed : _} {xr_Closed : _}
    (a_law_pen : PySem.W.nsIn K mainGlobals "_law_pen" = some (some (.ref f_law_pen)))
    (a_law_draw : PySem.W.nsIn K mainGlobals "_law_draw" = some (some (.ref f_law_draw)))
    (a_law_pick : PySem.W.nsIn K mainGlobals "_law_pick" = some (some (.ref f_law_pick)))
    (a_law_names : PySem.W.nsIn K mainGlobals "_law_names" = some (some (.ref f_law_names)))
    (a_law_digits : PySem.W.nsIn K mainGlobals "_law_digits" = some (some (.ref f_law_digits)))
    (a_law_row : PySem.W.nsIn K mainGlobals "_law_row" = some (some (.ref f_law_row)))
    (a_is_name : PySem.W.nsIn K mainGlobals "is_name" = some (some (.ref f_is_name)))
    (a_need_name : PySem.W.nsIn K mainGlobals "need_name" = some (some (.ref f_need_name)))
    (a_is_integer : PySem.W.nsIn K mainGlobals "is_integer" = some (some (.ref f_is_integer)))
    (a_Office : PySem.W.nsIn K mainGlobals "Office" = some (some (.ref C_Office)))
    (a_is_rate : PySem.W.nsIn K mainGlobals "is_rate" = some (some (.ref f_is_rate)))
    (a_InvalidNumber : PySem.W.nsIn K mainGlobals "InvalidNumber" = some (some (.ref C_InvalidNumber)))
    (a_need_integer : PySem.W.nsIn K mainGlobals "need_integer" = some (some (.ref f_need_integer)))
    (a_CappedOffice : PySem.W.nsIn K mainGlobals "CappedOffice" = some (some (.ref C_CappedOffice)))
    (a_law_made : PySem.W.nsIn K mainGlobals "_law_made" = some (some (.ref f_law_made)))
    (a_law_any : PySem.W.nsIn K mainGlobals "_law_any" = some (some (.ref f_law_any)))
    (a_law_amount : PySem.W.nsIn K mainGlobals "_law_amount" = some (some (.ref f_law_amount)))
    (a_law_is_integer : PySem.W.nsIn K mainGlobals "_law_is_integer" = some (some (.ref f_law_is_integer)))
    (a_law_result : PySem.W.nsIn K mainGlobals "_law_result" = some (some (.ref f_law_result)))
    (a_law_due : PySem.W.nsIn K mainGlobals "_law_due" = some (some (.ref f_law_due)))
    (a_Closed : PySem.W.nsIn K mainGlobals "Closed" = some (some (.ref C_Closed)))
    (a_need_amount : PySem.W.nsIn K mainGlobals "need_amount" = some (some (.ref f_need_amount)))
    (a_law_told : PySem.W.nsIn K mainGlobals "_law_told" = some (some (.ref f_law_told)))
    (a_law_values : PySem.W.nsIn K mainGlobals "_law_values" = some (some (.ref f_law_values)))
    (a_builtins : PySem.W.nsIn K mainGlobals "__builtins__" = some (some (.ref bmAd)))
    (a_law : PySem.W.nsIn K mainGlobals "law" = some (some (.ref f_law)))
    (xi_InvalidNumber : PySem.W.findIn K (.ref C_InvalidNumber) "__init__" = some (some (.ref f_InvalidNumber_init)))
    (mi_Office : PySem.W.findIn K (.ref C_Office) "__init__" = some (some (.ref f_Office_init)))
    (mi_CappedOffice : PySem.W.findIn K (.ref C_CappedOffice) "__init__" = some (some (.ref f_CappedOffice_init)))
    (m_CappedOffice_result : PySem.W.findIn K (.ref C_CappedOffice) "result" = some (some (.ref f_CappedOffice_result)))
    (m_Office_result : PySem.W.findIn K (.ref C_Office) "result" = some (some (.ref f_Office_result)))
    (xi_Closed : PySem.W.findIn K (.ref C_Closed) "__init__" = some (some (.ref f_Closed_init)))
    (m_CappedOffice_call : PySem.W.findIn K (.ref C_CappedOffice) "__call__" = some (some (.ref f_Office_call)))
    (m_Office_call : PySem.W.findIn K (.ref C_Office) "__call__" = some (some (.ref f_Office_call)))
    (m_CappedOffice_is_open : PySem.W.findIn K (.ref C_CappedOffice) "is_open" = some (some (.ref f_Office_is_open)))
    (m_Office_is_open : PySem.W.findIn K (.ref C_Office) "is_open" = some (some (.ref f_Office_is_open)))
    (m_CappedOffice_most : PySem.W.findIn K (.ref C_CappedOffice) "most" = some (some (.ref p_CappedOffice_most)))
    (m_Office_most : PySem.W.findIn K (.ref C_Office) "most" = some (some (.ref p_Office_most)))
    (m_CappedOffice_least : PySem.W.findIn K (.ref C_CappedOffice) "least" = some (some (.ref p_Office_least)))
    (m_Office_least : PySem.W.findIn K (.ref C_Office) "least" = some (some (.ref p_Office_least)))
    (m_CappedOffice_fee : PySem.W.findIn K (.ref C_CappedOffice) "fee" = some (some (.ref p_Office_fee)))
    (m_Office_fee : PySem.W.findIn K (.ref C_Office) "fee" = some (some (.ref p_Office_fee)))
    (m_CappedOffice_rate : PySem.W.findIn K (.ref C_CappedOffice) "rate" = some (some (.ref p_Office_rate)))
    (m_Office_rate : PySem.W.findIn K (.ref C_Office) "rate" = some (some (.ref p_Office_rate)))
    (m_CappedOffice_goal : PySem.W.findIn K (.ref C_CappedOffice) "goal" = some (some (.ref p_Office_goal)))
    (m_Office_goal : PySem.W.findIn K (.ref C_Office) "goal" = some (some (.ref p_Office_goal)))
    (m_CappedOffice_source : PySem.W.findIn K (.ref C_CappedOffice) "source" = some (some (.ref p_Office_source)))
    (m_Office_source : PySem.W.findIn K (.ref C_Office) "source" = some (some (.ref p_Office_source)))
    (pr_CappedOffice_most : PySem.W.recIn K p_CappedOffice_most "property" = some (.ref f_CappedOffice_most :: pz_CappedOffice_most))
    (pr_Office_most : PySem.W.recIn K p_Office_most "property" = some (.ref f_Office_most :: pz_Office_most))
    (pr_Office_least : PySem.W.recIn K p_Office_least "property" = some (.ref f_Office_least :: pz_Office_least))
    (pr_Office_fee : PySem.W.recIn K p_Office_fee "property" = some (.ref f_Office_fee :: pz_Office_fee))
    (pr_Office_rate : PySem.W.recIn K p_Office_rate "property" = some (.ref f_Office_rate :: pz_Office_rate))
    (pr_Office_goal : PySem.W.recIn K p_Office_goal "property" = some (.ref f_Office_goal :: pz_Office_goal))
    (pr_Office_source : PySem.W.recIn K p_Office_source "property" = some (.ref f_Office_source :: pz_Office_source))
    (l_law_pen : K.lookup f_law_pen = some ⟨oc_law_pen, od_law_pen, .func (PySem.W.fnOf "_law_pen" "_law_pen" (defArgs s_law_pen) (defBody s_law_pen) (defScope s_law_pen) .none kV_law_pen dc_law_pen pm_law_pen an_law_pen cd_law_pen ct_law_pen), sl_law_pen⟩)
    (l_law_draw : K.lookup f_law_draw = some ⟨oc_law_draw, od_law_draw, .func (PySem.W.fnOf "_law_draw" "_law_draw" (defArgs s_law_draw) (defBody s_law_draw) (defScope s_law_draw) .none kV_law_draw dc_law_draw pm_law_draw an_law_draw cd_law_draw ct_law_draw), sl_law_draw⟩)
    (l_law_pick : K.lookup f_law_pick = some ⟨oc_law_pick, od_law_pick, .func (PySem.W.fnOf "_law_pick" "_law_pick" (defArgs s_law_pick) (defBody s_law_pick) (defScope s_law_pick) .none kV_law_pick dc_law_pick pm_law_pick an_law_pick cd_law_pick ct_law_pick), sl_law_pick⟩)
    (l_law_names : K.lookup f_law_names = some ⟨oc_law_names, od_law_names, .func (PySem.W.fnOf "_law_names" "_law_names" (defArgs s_law_names) (defBody s_law_names) (defScope s_law_names) .none kV_law_names dc_law_names pm_law_names an_law_names cd_law_names ct_law_names), sl_law_names⟩)
    (l_law_digits : K.lookup f_law_digits = some ⟨oc_law_digits, od_law_digits, .func (PySem.W.fnOf "_law_digits" "_law_digits" (defArgs s_law_digits) (defBody s_law_digits) (defScope s_law_digits) .none kV_law_digits dc_law_digits pm_law_digits an_law_digits cd_law_digits ct_law_digits), sl_law_digits⟩)
    (l_law_row : K.lookup f_law_row = some ⟨oc_law_row, od_law_row, .func (PySem.W.fnOf "_law_row" "_law_row" (defArgs s_law_row) (defBody s_law_row) (defScope s_law_row) .none kV_law_row dc_law_row pm_law_row an_law_row cd_law_row ct_law_row), sl_law_row⟩)
    (l_is_name : K.lookup f_is_name = some ⟨oc_is_name, od_is_name, .func (PySem.W.fnOf "is_name" "is_name" (defArgs s_is_name) (defBody s_is_name) (defScope s_is_name) .none kV_is_name dc_is_name pm_is_name an_is_name cd_is_name ct_is_name), sl_is_name⟩)
    (l_need_name : K.lookup f_need_name = some ⟨oc_need_name, od_need_name, .func (PySem.W.fnOf "need_name" "need_name" (defArgs s_need_name) (defBody s_need_name) (defScope s_need_name) .none kV_need_name dc_need_name pm_need_name an_need_name cd_need_name ct_need_name), sl_need_name⟩)
    (l_is_integer : K.lookup f_is_integer = some ⟨oc_is_integer, od_is_integer, .func (PySem.W.fnOf "is_integer" "is_integer" (defArgs s_is_integer) (defBody s_is_integer) (defScope s_is_integer) .none kV_is_integer dc_is_integer pm_is_integer an_is_integer cd_is_integer ct_is_integer), sl_is_integer⟩)
    (l_is_rate : K.lookup f_is_rate = some ⟨oc_is_rate, od_is_rate, .func (PySem.W.fnOf "is_rate" "is_rate" (defArgs s_is_rate) (defBody s_is_rate) (defScope s_is_rate) .none kV_is_rate dc_is_rate pm_is_rate an_is_rate cd_is_rate ct_is_rate), sl_is_rate⟩)
    (l_InvalidNumber_init : K.lookup f_InvalidNumber_init = some ⟨oc_InvalidNumber_init, od_InvalidNumber_init, .func (PySem.W.fnOf "__init__" "InvalidNumber.__init__" (defArgs s_InvalidNumber_init) (defBody s_InvalidNumber_init) (defScope s_InvalidNumber_init) .none kV_InvalidNumber_init dc_InvalidNumber_init pm_InvalidNumber_init an_InvalidNumber_init cd_InvalidNumber_init ct_InvalidNumber_init), sl_InvalidNumber_init⟩)
    (xc_InvalidNumber : K.lookup C_InvalidNumber = some (PySem.excClassObj xa_InvalidNumber xb_InvalidNumber C_InvalidNumber xd_InvalidNumber xe_InvalidNumber [.type "ValueError", .type "Exception", .type "BaseException", .type "object"] true xf_InvalidNumber xg_InvalidNumber xh_InvalidNumber xj_InvalidNumber xk_InvalidNumber xl_InvalidNumber xm_InvalidNumber xo_InvalidNumber xp_InvalidNumber xr_InvalidNumber "ValueError.__new__"))
    (l_need_integer : K.lookup f_need_integer = some ⟨oc_need_integer, od_need_integer, .func (PySem.W.fnOf "need_integer" "need_integer" (defArgs s_need_integer) (defBody s_need_integer) (defScope s_need_integer) .none kV_need_integer dc_need_integer pm_need_integer an_need_integer cd_need_integer ct_need_integer), sl_need_integer⟩)
    (l_Office_init : K.lookup f_Office_init = some ⟨oc_Office_init, od_Office_init, .func (PySem.W.fnOf "__init__" "Office.__init__" (defArgs s_Office_init) (defBody s_Office_init) (defScope s_Office_init) .none kV_Office_init dc_Office_init pm_Office_init an_Office_init cd_Office_init ct_Office_init), sl_Office_init⟩)
    (l_CappedOffice_init : K.lookup f_CappedOffice_init = some ⟨oc_CappedOffice_init, od_CappedOffice_init, .func (PySem.W.fnX "__init__" "CappedOffice.__init__" (defArgs s_CappedOffice_init) (defBody s_CappedOffice_init) (defScope s_CappedOffice_init) [("__class__", cc_CappedOffice_init)] .none kV_CappedOffice_init dc_CappedOffice_init pm_CappedOffice_init an_CappedOffice_init (.ref cda_CappedOffice_init) ct_CappedOffice_init), sl_CappedOffice_init⟩)
    (l_law_made : K.lookup f_law_made = some ⟨oc_law_made, od_law_made, .func (PySem.W.fnOf "_law_made" "_law_made" (defArgs s_law_made) (defBody s_law_made) (defScope s_law_made) .none kV_law_made dc_law_made pm_law_made an_law_made cd_law_made ct_law_made), sl_law_made⟩)
    (l_law_any : K.lookup f_law_any = some ⟨oc_law_any, od_law_any, .func (PySem.W.fnOf "_law_any" "_law_any" (defArgs s_law_any) (defBody s_law_any) (defScope s_law_any) .none kV_law_any dc_law_any pm_law_any an_law_any cd_law_any ct_law_any), sl_law_any⟩)
    (l_law_amount : K.lookup f_law_amount = some ⟨oc_law_amount, od_law_amount, .func (PySem.W.fnOf "_law_amount" "_law_amount" (defArgs s_law_amount) (defBody s_law_amount) (defScope s_law_amount) .none kV_law_amount dc_law_amount pm_law_amount an_law_amount cd_law_amount ct_law_amount), sl_law_amount⟩)
    (l_law_is_integer : K.lookup f_law_is_integer = some ⟨oc_law_is_integer, od_law_is_integer, .func (PySem.W.fnOf "_law_is_integer" "_law_is_integer" (defArgs s_law_is_integer) (defBody s_law_is_integer) (defScope s_law_is_integer) .none kV_law_is_integer dc_law_is_integer pm_law_is_integer an_law_is_integer cd_law_is_integer ct_law_is_integer), sl_law_is_integer⟩)
    (l_law_result : K.lookup f_law_result = some ⟨oc_law_result, od_law_result, .func (PySem.W.fnOf "_law_result" "_law_result" (defArgs s_law_result) (defBody s_law_result) (defScope s_law_result) .none kV_law_result dc_law_result pm_law_result an_law_result cd_law_result ct_law_result), sl_law_result⟩)
    (l_law_due : K.lookup f_law_due = some ⟨oc_law_due, od_law_due, .func (PySem.W.fnOf "_law_due" "_law_due" (defArgs s_law_due) (defBody s_law_due) (defScope s_law_due) .none kV_law_due dc_law_due pm_law_due an_law_due cd_law_due ct_law_due), sl_law_due⟩)
    (l_need_amount : K.lookup f_need_amount = some ⟨oc_need_amount, od_need_amount, .func (PySem.W.fnOf "need_amount" "need_amount" (defArgs s_need_amount) (defBody s_need_amount) (defScope s_need_amount) .none kV_need_amount dc_need_amount pm_need_amount an_need_amount cd_need_amount ct_need_amount), sl_need_amount⟩)
    (l_Office_result : K.lookup f_Office_result = some ⟨oc_Office_result, od_Office_result, .func (PySem.W.fnOf "result" "Office.result" (defArgs s_Office_result) (defBody s_Office_result) (defScope s_Office_result) .none kV_Office_result dc_Office_result pm_Office_result an_Office_result cd_Office_result ct_Office_result), sl_Office_result⟩)
    (l_CappedOffice_result : K.lookup f_CappedOffice_result = some ⟨oc_CappedOffice_result, od_CappedOffice_result, .func (PySem.W.fnX "result" "CappedOffice.result" (defArgs s_CappedOffice_result) (defBody s_CappedOffice_result) (defScope s_CappedOffice_result) [("__class__", cc_CappedOffice_result)] .none kV_CappedOffice_result dc_CappedOffice_result pm_CappedOffice_result an_CappedOffice_result (.ref cda_CappedOffice_result) ct_CappedOffice_result), sl_CappedOffice_result⟩)
    (l_Closed_init : K.lookup f_Closed_init = some ⟨oc_Closed_init, od_Closed_init, .func (PySem.W.fnOf "__init__" "Closed.__init__" (defArgs s_Closed_init) (defBody s_Closed_init) (defScope s_Closed_init) .none kV_Closed_init dc_Closed_init pm_Closed_init an_Closed_init cd_Closed_init ct_Closed_init), sl_Closed_init⟩)
    (xc_Closed : K.lookup C_Closed = some (PySem.excClassObj xa_Closed xb_Closed C_Closed xd_Closed xe_Closed [.type "RuntimeError", .type "Exception", .type "BaseException", .type "object"] true xf_Closed xg_Closed xh_Closed xj_Closed xk_Closed xl_Closed xm_Closed xo_Closed xp_Closed xr_Closed "RuntimeError.__new__"))
    (l_Office_call : K.lookup f_Office_call = some ⟨oc_Office_call, od_Office_call, .func (PySem.W.fnOf "__call__" "Office.__call__" (defArgs s_Office_call) (defBody s_Office_call) (defScope s_Office_call) .none kV_Office_call dc_Office_call pm_Office_call an_Office_call cd_Office_call ct_Office_call), sl_Office_call⟩)
    (l_law_told : K.lookup f_law_told = some ⟨oc_law_told, od_law_told, .func (PySem.W.fnOf "_law_told" "_law_told" (defArgs s_law_told) (defBody s_law_told) (defScope s_law_told) .none kV_law_told dc_law_told pm_law_told an_law_told cd_law_told ct_law_told), sl_law_told⟩)
    (l_Office_is_open : K.lookup f_Office_is_open = some ⟨oc_Office_is_open, od_Office_is_open, .func (PySem.W.fnOf "is_open" "Office.is_open" (defArgs s_Office_is_open) (defBody s_Office_is_open) (defScope s_Office_is_open) .none kV_Office_is_open dc_Office_is_open pm_Office_is_open an_Office_is_open cd_Office_is_open ct_Office_is_open), sl_Office_is_open⟩)
    (l_CappedOffice_most : K.lookup f_CappedOffice_most = some ⟨oc_CappedOffice_most, od_CappedOffice_most, .func (PySem.W.fnOf "most" "CappedOffice.most" (defArgs s_CappedOffice_most) (defBody s_CappedOffice_most) (defScope s_CappedOffice_most) .none kV_CappedOffice_most dc_CappedOffice_most pm_CappedOffice_most an_CappedOffice_most cd_CappedOffice_most ct_CappedOffice_most), sl_CappedOffice_most⟩)
    (l_Office_most : K.lookup f_Office_most = some ⟨oc_Office_most, od_Office_most, .func (PySem.W.fnOf "most" "Office.most" (defArgs s_Office_most) (defBody s_Office_most) (defScope s_Office_most) .none kV_Office_most dc_Office_most pm_Office_most an_Office_most cd_Office_most ct_Office_most), sl_Office_most⟩)
    (l_Office_least : K.lookup f_Office_least = some ⟨oc_Office_least, od_Office_least, .func (PySem.W.fnOf "least" "Office.least" (defArgs s_Office_least) (defBody s_Office_least) (defScope s_Office_least) .none kV_Office_least dc_Office_least pm_Office_least an_Office_least cd_Office_least ct_Office_least), sl_Office_least⟩)
    (l_Office_fee : K.lookup f_Office_fee = some ⟨oc_Office_fee, od_Office_fee, .func (PySem.W.fnOf "fee" "Office.fee" (defArgs s_Office_fee) (defBody s_Office_fee) (defScope s_Office_fee) .none kV_Office_fee dc_Office_fee pm_Office_fee an_Office_fee cd_Office_fee ct_Office_fee), sl_Office_fee⟩)
    (l_Office_rate : K.lookup f_Office_rate = some ⟨oc_Office_rate, od_Office_rate, .func (PySem.W.fnOf "rate" "Office.rate" (defArgs s_Office_rate) (defBody s_Office_rate) (defScope s_Office_rate) .none kV_Office_rate dc_Office_rate pm_Office_rate an_Office_rate cd_Office_rate ct_Office_rate), sl_Office_rate⟩)
    (l_Office_goal : K.lookup f_Office_goal = some ⟨oc_Office_goal, od_Office_goal, .func (PySem.W.fnOf "goal" "Office.goal" (defArgs s_Office_goal) (defBody s_Office_goal) (defScope s_Office_goal) .none kV_Office_goal dc_Office_goal pm_Office_goal an_Office_goal cd_Office_goal ct_Office_goal), sl_Office_goal⟩)
    (l_Office_source : K.lookup f_Office_source = some ⟨oc_Office_source, od_Office_source, .func (PySem.W.fnOf "source" "Office.source" (defArgs s_Office_source) (defBody s_Office_source) (defScope s_Office_source) .none kV_Office_source dc_Office_source pm_Office_source an_Office_source cd_Office_source ct_Office_source), sl_Office_source⟩)
    (l_law_values : K.lookup f_law_values = some ⟨oc_law_values, od_law_values, .func (PySem.W.fnOf "_law_values" "_law_values" (defArgs s_law_values) (defBody s_law_values) (defScope s_law_values) .none kV_law_values dc_law_values pm_law_values an_law_values cd_law_values ct_law_values), sl_law_values⟩)
    (l_law : K.lookup f_law = some ⟨oc_law, od_law, .func (PySem.W.fnOf "law" "law" (defArgs s_law) (defBody s_law) (defScope s_law) .none kV_law dc_law pm_law an_law cd_law ct_law), sl_law⟩)
    (e_CappedOffice_init : K.lookup cc_CappedOffice_init = some ⟨oce_CappedOffice_init, ode_CappedOffice_init, .cell (some (.ref C_CappedOffice)), sle_CappedOffice_init⟩)
    (g_CappedOffice_init : K.lookup cda_CappedOffice_init = some ⟨ocg_CappedOffice_init, odg_CappedOffice_init, .fields vsg_CappedOffice_init, slg_CappedOffice_init⟩)
    (e_CappedOffice_result : K.lookup cc_CappedOffice_result = some ⟨oce_CappedOffice_result, ode_CappedOffice_result, .cell (some (.ref C_CappedOffice)), sle_CappedOffice_result⟩)
    (g_CappedOffice_result : K.lookup cda_CappedOffice_result = some ⟨ocg_CappedOffice_result, odg_CappedOffice_result, .fields vsg_CappedOffice_result, slg_CappedOffice_result⟩)
    (z_list : PySem.W.nsIn K mainGlobals "list" = some none)
    (c_law_pen : PySem.W.codeIn K cd_law_pen "_law_pen" = true)
    (k_law_pen : PySem.W.keepIn K (.ref f_law_pen) = true)
    (z_range : PySem.W.nsIn K mainGlobals "range" = some none)
    (z_int : PySem.W.nsIn K mainGlobals "int" = some none)
    (z_len : PySem.W.nsIn K mainGlobals "len" = some none)
    (z_abs : PySem.W.nsIn K mainGlobals "abs" = some none)
    (c_law_draw : PySem.W.codeIn K cd_law_draw "_law_draw" = true)
    (k_law_draw : PySem.W.keepIn K (.ref f_law_draw) = true)
    (c_law_pick : PySem.W.codeIn K cd_law_pick "_law_pick" = true)
    (k_law_pick : PySem.W.keepIn K (.ref f_law_pick) = true)
    (c_law_names : PySem.W.codeIn K cd_law_names "_law_names" = true)
    (k_law_names : PySem.W.keepIn K (.ref f_law_names) = true)
    (c_law_digits : PySem.W.codeIn K cd_law_digits "_law_digits" = true)
    (k_law_digits : PySem.W.keepIn K (.ref f_law_digits) = true)
    (z_min : PySem.W.nsIn K mainGlobals "min" = some none)
    (c_law_row : PySem.W.codeIn K cd_law_row "_law_row" = true)
    (k_law_row : PySem.W.keepIn K (.ref f_law_row) = true)
    (gs_ALPHABET : PySem.W.nsIn K mainGlobals "ALPHABET" = some (some (.str "abcdefghijklmnopqrstuvwxyz" tg_ALPHABET)))
    (z_all : PySem.W.nsIn K mainGlobals "all" = some none)
    (gi_LETTERS : PySem.W.nsIn K mainGlobals "LETTERS" = some (some (.int 8 tg_LETTERS)))
    (z_isinstance : PySem.W.nsIn K mainGlobals "isinstance" = some none)
    (z_str : PySem.W.nsIn K mainGlobals "str" = some none)
    (c_is_name : PySem.W.codeIn K cd_is_name "is_name" = true)
    (k_is_name : PySem.W.keepIn K (.ref f_is_name) = true)
    (c_need_name : PySem.W.codeIn K cd_need_name "need_name" = true)
    (k_need_name : PySem.W.keepIn K (.ref f_need_name) = true)
    (z_tuple : PySem.W.nsIn K mainGlobals "tuple" = some none)
    (z_bool : PySem.W.nsIn K mainGlobals "bool" = some none)
    (c_is_integer : PySem.W.codeIn K cd_is_integer "is_integer" = true)
    (k_is_integer : PySem.W.keepIn K (.ref f_is_integer) = true)
    (cr_Office : PySem.W.readsIn K C_Office (.type "type") = true)
    (cq_Office : PySem.W.specialIn K (.ref C_Office) "__getattribute__" = some (some (.builtin "type.__getattribute__")))
    (cv_Office_RATE : PySem.W.findCls K (.ref C_Office) (.type "type") "RATE" = some (.val (.int 9 tv_Office_RATE)))
    (c_is_rate : PySem.W.codeIn K cd_is_rate "is_rate" = true)
    (k_is_rate : PySem.W.keepIn K (.ref f_is_rate) = true)
    (c_InvalidNumber_init : PySem.W.codeIn K cd_InvalidNumber_init "InvalidNumber.__init__" = true)
    (k_InvalidNumber_init : PySem.W.keepIn K (.ref f_InvalidNumber_init) = true)
    (xs_InvalidNumber : PySem.W.findIn K (.ref C_InvalidNumber) "__setattr__" = some (some (.builtin "object.__setattr__")))
    (xE_InvalidNumber : PySem.W.subIn K (.ref C_InvalidNumber) (.type "BaseException") = some true)
    (xt_InvalidNumber : PySem.W.typeIn K (.ref C_InvalidNumber) = some (.type "type"))
    (xK_InvalidNumber : PySem.W.keepIn K (.ref C_InvalidNumber) = true)
    (st_InvalidNumber_init : PySem.W.typeIn K (.ref f_InvalidNumber_init) = some (.type "function"))
    (xo__InvalidNumber : PySem.W.findIn K (.ref C_InvalidNumber) "value" = some none)
    (xv_ValueError : PySem.W.findCls K (.type "ValueError") (.type "type") "__init__" = some (.val (.builtin "ValueError.__init__")))
    (z_ValueError : PySem.W.nsIn K mainGlobals "ValueError" = some none)
    (c_need_integer : PySem.W.codeIn K cd_need_integer "need_integer" = true)
    (k_need_integer : PySem.W.keepIn K (.ref f_need_integer) = true)
    (cg_CappedOffice : PySem.W.plainGet K C_CappedOffice Str.empty = true)
    (ch_CappedOffice : PySem.W.hasDictIn K C_CappedOffice = true)
    (co_CappedOffice : PySem.W.plainOver K C_CappedOffice = true)
    (cs_CappedOffice : PySem.W.findIn K (.ref C_CappedOffice) "__setattr__" = some (some (.builtin "object.__setattr__")))
    (ck_CappedOffice_FEE : PySem.W.findIn K (.ref C_CappedOffice) "FEE" = some (some (.int 20 tk_CappedOffice_FEE)))
    (cg_Office : PySem.W.plainGet K C_Office Str.empty = true)
    (ch_Office : PySem.W.hasDictIn K C_Office = true)
    (co_Office : PySem.W.plainOver K C_Office = true)
    (cs_Office : PySem.W.findIn K (.ref C_Office) "__setattr__" = some (some (.builtin "object.__setattr__")))
    (ck_Office_FEE : PySem.W.findIn K (.ref C_Office) "FEE" = some (some (.int 20 tk_Office_FEE)))
    (ck_CappedOffice_LEAST : PySem.W.findIn K (.ref C_CappedOffice) "LEAST" = some (some (.int 1000 tk_CappedOffice_LEAST)))
    (ck_Office_LEAST : PySem.W.findIn K (.ref C_Office) "LEAST" = some (some (.int 1000 tk_Office_LEAST)))
    (na_CappedOffice_name : PySem.W.findIn K (.ref C_CappedOffice) "name" = some none)
    (na_Office_name : PySem.W.findIn K (.ref C_Office) "name" = some none)
    (na_CappedOffice_own_ends : PySem.W.findIn K (.ref C_CappedOffice) "own_ends" = some none)
    (na_Office_own_ends : PySem.W.findIn K (.ref C_Office) "own_ends" = some none)
    (na_CappedOffice_own_rate : PySem.W.findIn K (.ref C_CappedOffice) "own_rate" = some none)
    (na_Office_own_rate : PySem.W.findIn K (.ref C_Office) "own_rate" = some none)
    (na_CappedOffice_own_fee : PySem.W.findIn K (.ref C_CappedOffice) "own_fee" = some none)
    (na_Office_own_fee : PySem.W.findIn K (.ref C_Office) "own_fee" = some none)
    (na_CappedOffice_own_least : PySem.W.findIn K (.ref C_CappedOffice) "own_least" = some none)
    (na_Office_own_least : PySem.W.findIn K (.ref C_Office) "own_least" = some none)
    (c_Office_init : PySem.W.codeIn K cd_Office_init "Office.__init__" = true)
    (k_Office_init : PySem.W.keepIn K (.ref f_Office_init) = true)
    (mm_Office : PySem.W.makesIn K C_Office = true)
    (mf_Office_init : PySem.W.isFn K (.ref f_Office_init) = true)
    (mc_Office : PySem.W.keepIn K (.ref C_Office) = true)
    (sr_CappedOffice_CappedOffice : PySem.W.mroIn K C_CappedOffice (.ref C_CappedOffice) = some true)
    (sa_CappedOffice_CappedOffice_init : PySem.W.ks_superIn K C_CappedOffice C_CappedOffice "__init__" = some (some (.ref f_Office_init)))
    (st_Office_init : PySem.W.typeIn K (.ref f_Office_init) = some (.type "function"))
    (fi_Office_init : PySem.W.fnIn K f_Office_init = true)
    (zo_any : PySem.W.nsIn K cStatics "thirdparty.any" = some none)
    (ck_CappedOffice_MOST : PySem.W.findIn K (.ref C_CappedOffice) "MOST" = some (some (.int 1000000 tk_CappedOffice_MOST)))
    (na_CappedOffice_own_most : PySem.W.findIn K (.ref C_CappedOffice) "own_most" = some none)
    (c_CappedOffice_init : PySem.W.codeIn K (.ref cda_CappedOffice_init) "CappedOffice.__init__" = true)
    (h_CappedOffice_init : vsg_CappedOffice_init[2]? = some (.str fi_CappedOffice_init tf_CappedOffice_init))
    (i_CappedOffice_init : ((l.prog.main.file : Str) == fi_CappedOffice_init) = true)
    (cd_CappedOffice : PySem.W.clsIn K C_CappedOffice = some cdd_CappedOffice)
    (z_super : PySem.W.nsIn K mainGlobals "super" = some none)
    (zt_super : (l.prog.main.scope.names.lookup ("super" : Str)).isSome = false)
    (mm_CappedOffice : PySem.W.makesIn K C_CappedOffice = true)
    (mf_CappedOffice_init : PySem.W.isFn K (.ref f_CappedOffice_init) = true)
    (mc_CappedOffice : PySem.W.keepIn K (.ref C_CappedOffice) = true)
    (c_law_made : PySem.W.codeIn K cd_law_made "_law_made" = true)
    (k_law_made : PySem.W.keepIn K (.ref f_law_made) = true)
    (c_law_any : PySem.W.codeIn K cd_law_any "_law_any" = true)
    (k_law_any : PySem.W.keepIn K (.ref f_law_any) = true)
    (z_max : PySem.W.nsIn K mainGlobals "max" = some none)
    (c_law_amount : PySem.W.codeIn K cd_law_amount "_law_amount" = true)
    (k_law_amount : PySem.W.keepIn K (.ref f_law_amount) = true)
    (c_law_is_integer : PySem.W.codeIn K cd_law_is_integer "_law_is_integer" = true)
    (k_law_is_integer : PySem.W.keepIn K (.ref f_law_is_integer) = true)
    (z_repr : PySem.W.nsIn K mainGlobals "repr" = some none)
    (c_law_result : PySem.W.codeIn K cd_law_result "_law_result" = true)
    (k_law_result : PySem.W.keepIn K (.ref f_law_result) = true)
    (c_law_due : PySem.W.codeIn K cd_law_due "_law_due" = true)
    (k_law_due : PySem.W.keepIn K (.ref f_law_due) = true)
    (et_Closed_InvalidNumber : PySem.W.exmOne K (.ref C_InvalidNumber) (.ref C_Closed) = some false)
    (et_InvalidNumber_InvalidNumber : PySem.W.exmOne K (.ref C_InvalidNumber) (.ref C_InvalidNumber) = some true)
    (et_Closed_Closed : PySem.W.exmOne K (.ref C_Closed) (.ref C_Closed) = some true)
    (et_InvalidNumber_Closed : PySem.W.exmOne K (.ref C_Closed) (.ref C_InvalidNumber) = some false)
    (kb_Closed_NoneType : PySem.W.kitOne K (.type "NoneType") (.ref C_Closed) = some false)
    (kb_Closed_bool : PySem.W.kitOne K (.type "bool") (.ref C_Closed) = some false)
    (kb_Closed_int : PySem.W.kitOne K (.type "int") (.ref C_Closed) = some false)
    (kb_Closed_str : PySem.W.kitOne K (.type "str") (.ref C_Closed) = some false)
    (kb_Closed_tuple : PySem.W.kitOne K (.type "tuple") (.ref C_Closed) = some false)
    (kb_Closed_list : PySem.W.kitOne K (.type "list") (.ref C_Closed) = some false)
    (kb_Closed_dict : PySem.W.kitOne K (.type "dict") (.ref C_Closed) = some false)
    (vd_InvalidNumber : PySem.W.hasDictIn K C_InvalidNumber = true)
    (vg_InvalidNumber : PySem.W.findIn K (.ref C_InvalidNumber) "__getattribute__" = some (some (.builtin "BaseException.__getattribute__")))
    (vh_InvalidNumber : PySem.W.findIn K (.ref C_InvalidNumber) "__getattr__" = some none)
    (ia_InvalidNumber : PySem.W.findIn K (.ref C_InvalidNumber) "__class__" = some (some (.builtin "object.__class__")))
    (iz_hn : PySem.W.specialIn K (.builtin "object.__class__") "__get__" = some (some (.builtin "getset_descriptor.__get__")))
    (iz_htk : PySem.W.takesIn K (.builtin "object.__class__") = some true)
    (io_InvalidNumber : PySem.W.mroIn K C_InvalidNumber (.type "object") = some true)
    (kt_InvalidNumber_Closed : PySem.W.kitOne K (.ref C_InvalidNumber) (.ref C_Closed) = some false)
    (vd_Closed : PySem.W.hasDictIn K C_Closed = true)
    (vg_Closed : PySem.W.findIn K (.ref C_Closed) "__getattribute__" = some (some (.builtin "BaseException.__getattribute__")))
    (vh_Closed : PySem.W.findIn K (.ref C_Closed) "__getattr__" = some none)
    (xE_Closed : PySem.W.subIn K (.ref C_Closed) (.type "BaseException") = some true)
    (ia_Closed : PySem.W.findIn K (.ref C_Closed) "__class__" = some (some (.builtin "object.__class__")))
    (io_Closed : PySem.W.mroIn K C_Closed (.type "object") = some true)
    (kt_Closed_Closed : PySem.W.kitOne K (.ref C_Closed) (.ref C_Closed) = some true)
    (kb_ValueError_NoneType : PySem.W.kitOne K (.type "NoneType") (.type "ValueError") = some false)
    (kb_InvalidNumber_NoneType : PySem.W.kitOne K (.type "NoneType") (.ref C_InvalidNumber) = some false)
    (kb_ValueError_bool : PySem.W.kitOne K (.type "bool") (.type "ValueError") = some false)
    (kb_InvalidNumber_bool : PySem.W.kitOne K (.type "bool") (.ref C_InvalidNumber) = some false)
    (kb_ValueError_int : PySem.W.kitOne K (.type "int") (.type "ValueError") = some false)
    (kb_InvalidNumber_int : PySem.W.kitOne K (.type "int") (.ref C_InvalidNumber) = some false)
    (kb_ValueError_str : PySem.W.kitOne K (.type "str") (.type "ValueError") = some false)
    (kb_InvalidNumber_str : PySem.W.kitOne K (.type "str") (.ref C_InvalidNumber) = some false)
    (kb_ValueError_tuple : PySem.W.kitOne K (.type "tuple") (.type "ValueError") = some false)
    (kb_InvalidNumber_tuple : PySem.W.kitOne K (.type "tuple") (.ref C_InvalidNumber) = some false)
    (kb_ValueError_list : PySem.W.kitOne K (.type "list") (.type "ValueError") = some false)
    (kb_InvalidNumber_list : PySem.W.kitOne K (.type "list") (.ref C_InvalidNumber) = some false)
    (kb_ValueError_dict : PySem.W.kitOne K (.type "dict") (.type "ValueError") = some false)
    (kb_InvalidNumber_dict : PySem.W.kitOne K (.type "dict") (.ref C_InvalidNumber) = some false)
    (kt_InvalidNumber_ValueError : PySem.W.kitOne K (.ref C_InvalidNumber) (.type "ValueError") = some true)
    (kt_InvalidNumber_InvalidNumber : PySem.W.kitOne K (.ref C_InvalidNumber) (.ref C_InvalidNumber) = some true)
    (kt_Closed_ValueError : PySem.W.kitOne K (.ref C_Closed) (.type "ValueError") = some false)
    (kt_Closed_InvalidNumber : PySem.W.kitOne K (.ref C_Closed) (.ref C_InvalidNumber) = some false)
    (kb_RuntimeError_NoneType : PySem.W.kitOne K (.type "NoneType") (.type "RuntimeError") = some false)
    (kb_RuntimeError_bool : PySem.W.kitOne K (.type "bool") (.type "RuntimeError") = some false)
    (kb_RuntimeError_int : PySem.W.kitOne K (.type "int") (.type "RuntimeError") = some false)
    (kb_RuntimeError_str : PySem.W.kitOne K (.type "str") (.type "RuntimeError") = some false)
    (kb_RuntimeError_tuple : PySem.W.kitOne K (.type "tuple") (.type "RuntimeError") = some false)
    (kb_RuntimeError_list : PySem.W.kitOne K (.type "list") (.type "RuntimeError") = some false)
    (kb_RuntimeError_dict : PySem.W.kitOne K (.type "dict") (.type "RuntimeError") = some false)
    (kt_InvalidNumber_RuntimeError : PySem.W.kitOne K (.ref C_InvalidNumber) (.type "RuntimeError") = some false)
    (kt_Closed_RuntimeError : PySem.W.kitOne K (.ref C_Closed) (.type "RuntimeError") = some true)
    (z_RuntimeError : PySem.W.nsIn K mainGlobals "RuntimeError" = some none)
    (vn_Closed_name : PySem.W.findIn K (.ref C_Closed) "name" = some none)
    (vn_InvalidNumber_value : PySem.W.findIn K (.ref C_InvalidNumber) "value" = some none)
    (gi_COINS : PySem.W.nsIn K mainGlobals "COINS" = some (some (.int 1000000000000000000000000000000 tg_COINS)))
    (c_need_amount : PySem.W.codeIn K cd_need_amount "need_amount" = true)
    (k_need_amount : PySem.W.keepIn K (.ref f_need_amount) = true)
    (sa_CappedOffice_CappedOffice_result : PySem.W.ks_superIn K C_CappedOffice C_CappedOffice "result" = some (some (.ref f_Office_result)))
    (st_Office_result : PySem.W.typeIn K (.ref f_Office_result) = some (.type "function"))
    (fi_Office_result : PySem.W.fnIn K f_Office_result = true)
    (c_Office_result : PySem.W.codeIn K cd_Office_result "Office.result" = true)
    (k_Office_result : PySem.W.keepIn K (.ref f_Office_result) = true)
    (mf_CappedOffice_result : PySem.W.isFn K (.ref f_CappedOffice_result) = true)
    (k_CappedOffice_result : PySem.W.keepIn K (.ref f_CappedOffice_result) = true)
    (c_CappedOffice_result : PySem.W.codeIn K (.ref cda_CappedOffice_result) "CappedOffice.result" = true)
    (h_CappedOffice_result : vsg_CappedOffice_result[2]? = some (.str fi_CappedOffice_result tf_CappedOffice_result))
    (i_CappedOffice_result : ((l.prog.main.file : Str) == fi_CappedOffice_result) = true)
    (mf_Office_result : PySem.W.isFn K (.ref f_Office_result) = true)
    (c_Closed_init : PySem.W.codeIn K cd_Closed_init "Closed.__init__" = true)
    (k_Closed_init : PySem.W.keepIn K (.ref f_Closed_init) = true)
    (xs_Closed : PySem.W.findIn K (.ref C_Closed) "__setattr__" = some (some (.builtin "object.__setattr__")))
    (xt_Closed : PySem.W.typeIn K (.ref C_Closed) = some (.type "type"))
    (xK_Closed : PySem.W.keepIn K (.ref C_Closed) = true)
    (st_Closed_init : PySem.W.typeIn K (.ref f_Closed_init) = some (.type "function"))
    (xo__Closed : PySem.W.findIn K (.ref C_Closed) "name" = some none)
    (xv_RuntimeError : PySem.W.findCls K (.type "RuntimeError") (.type "type") "__init__" = some (.val (.builtin "RuntimeError.__init__")))
    (mf_Office_call : PySem.W.isFn K (.ref f_Office_call) = true)
    (fi_Office_call : PySem.W.fnIn K f_Office_call = true)
    (c_Office_call : PySem.W.codeIn K cd_Office_call "Office.__call__" = true)
    (k_Office_call : PySem.W.keepIn K (.ref f_Office_call) = true)
    (c_law_told : PySem.W.codeIn K cd_law_told "_law_told" = true)
    (k_law_told : PySem.W.keepIn K (.ref f_law_told) = true)
    (mf_Office_is_open : PySem.W.isFn K (.ref f_Office_is_open) = true)
    (k_Office_is_open : PySem.W.keepIn K (.ref f_Office_is_open) = true)
    (c_Office_is_open : PySem.W.codeIn K cd_Office_is_open "Office.is_open" = true)
    (pg_CappedOffice_most : PySem.W.specialIn K (.ref p_CappedOffice_most) "__get__" = some (some (.builtin "property.__get__")))
    (pt_CappedOffice_most : PySem.W.takesIn K (.ref p_CappedOffice_most) = some true)
    (c_CappedOffice_most : PySem.W.codeIn K cd_CappedOffice_most "CappedOffice.most" = true)
    (k_CappedOffice_most : PySem.W.keepIn K (.ref f_CappedOffice_most) = true)
    (pg_Office_most : PySem.W.specialIn K (.ref p_Office_most) "__get__" = some (some (.builtin "property.__get__")))
    (pt_Office_most : PySem.W.takesIn K (.ref p_Office_most) = some true)
    (c_Office_most : PySem.W.codeIn K cd_Office_most "Office.most" = true)
    (k_Office_most : PySem.W.keepIn K (.ref f_Office_most) = true)
    (pg_Office_least : PySem.W.specialIn K (.ref p_Office_least) "__get__" = some (some (.builtin "property.__get__")))
    (pt_Office_least : PySem.W.takesIn K (.ref p_Office_least) = some true)
    (c_Office_least : PySem.W.codeIn K cd_Office_least "Office.least" = true)
    (k_Office_least : PySem.W.keepIn K (.ref f_Office_least) = true)
    (pg_Office_fee : PySem.W.specialIn K (.ref p_Office_fee) "__get__" = some (some (.builtin "property.__get__")))
    (pt_Office_fee : PySem.W.takesIn K (.ref p_Office_fee) = some true)
    (c_Office_fee : PySem.W.codeIn K cd_Office_fee "Office.fee" = true)
    (k_Office_fee : PySem.W.keepIn K (.ref f_Office_fee) = true)
    (pg_Office_rate : PySem.W.specialIn K (.ref p_Office_rate) "__get__" = some (some (.builtin "property.__get__")))
    (pt_Office_rate : PySem.W.takesIn K (.ref p_Office_rate) = some true)
    (c_Office_rate : PySem.W.codeIn K cd_Office_rate "Office.rate" = true)
    (k_Office_rate : PySem.W.keepIn K (.ref f_Office_rate) = true)
    (pg_Office_goal : PySem.W.specialIn K (.ref p_Office_goal) "__get__" = some (some (.builtin "property.__get__")))
    (pt_Office_goal : PySem.W.takesIn K (.ref p_Office_goal) = some true)
    (c_Office_goal : PySem.W.codeIn K cd_Office_goal "Office.goal" = true)
    (k_Office_goal : PySem.W.keepIn K (.ref f_Office_goal) = true)
    (pg_Office_source : PySem.W.specialIn K (.ref p_Office_source) "__get__" = some (some (.builtin "property.__get__")))
    (pt_Office_source : PySem.W.takesIn K (.ref p_Office_source) = some true)
    (c_Office_source : PySem.W.codeIn K cd_Office_source "Office.source" = true)
    (k_Office_source : PySem.W.keepIn K (.ref f_Office_source) = true)
    (kb_CappedOffice_NoneType : PySem.W.kitOne K (.type "NoneType") (.ref C_CappedOffice) = some false)
    (kb_CappedOffice_bool : PySem.W.kitOne K (.type "bool") (.ref C_CappedOffice) = some false)
    (kb_CappedOffice_int : PySem.W.kitOne K (.type "int") (.ref C_CappedOffice) = some false)
    (kb_CappedOffice_str : PySem.W.kitOne K (.type "str") (.ref C_CappedOffice) = some false)
    (kb_CappedOffice_tuple : PySem.W.kitOne K (.type "tuple") (.ref C_CappedOffice) = some false)
    (kb_CappedOffice_list : PySem.W.kitOne K (.type "list") (.ref C_CappedOffice) = some false)
    (kb_CappedOffice_dict : PySem.W.kitOne K (.type "dict") (.ref C_CappedOffice) = some false)
    (ia_CappedOffice : PySem.W.findIn K (.ref C_CappedOffice) "__class__" = some (some (.builtin "object.__class__")))
    (io_CappedOffice : PySem.W.mroIn K C_CappedOffice (.type "object") = some true)
    (kt_CappedOffice_CappedOffice : PySem.W.kitOne K (.ref C_CappedOffice) (.ref C_CappedOffice) = some true)
    (ia_Office : PySem.W.findIn K (.ref C_Office) "__class__" = some (some (.builtin "object.__class__")))
    (io_Office : PySem.W.mroIn K C_Office (.type "object") = some true)
    (kt_Office_Office : PySem.W.kitOne K (.ref C_Office) (.ref C_Office) = some true)
    (kt_Office_CappedOffice : PySem.W.kitOne K (.ref C_Office) (.ref C_CappedOffice) = some false)
    (c_law_values : PySem.W.codeIn K cd_law_values "_law_values" = true)
    (k_law_values : PySem.W.keepIn K (.ref f_law_values) = true)
    (c_law : PySem.W.codeIn K cd_law "law" = true)
    (k_law : PySem.W.keepIn K (.ref f_law) = true)
    (lm_law : lamKB K f_law bmAd "law.<locals>.<lambda>" = true)
    : ∃ fd : FuncData, (∀ (s : Shared) (v : Value), BindsTo s fd ⟨[v], []⟩ [("_law_script", v)]) ∧ ∀ base : Heap, K.In base → base.Ns mainGlobals mg → FnG l.prog w K mg base (L2.CX l.prog w) 8 fa fd ["_law_script"] (spM K 1 m_law) := by
  have e := hfa.symm.trans (PySem.W.mg_of X G a_law)
  cases e
  have y_b_list : mg "list" = none := PySem.W.mg_none_of X G z_list
  have y_fn_law_pen : FnP K mg "_law_pen" s_law_pen ["_law_script"] := ⟨_, _, PySem.W.mg_of X G a_law_pen, (funMk (st := s_law_pen) l_law_pen c_law_pen k_law_pen), binds_of (kbN (ps := ["_law_script"]) (n := 1) (ks := []) fun us ws h1 h2 => match us, h1, ws, h2 with | [_], _, [], _ => rfl) rfl⟩
  have y_b_range : mg "range" = none := PySem.W.mg_none_of X G z_range
  have y_b_int : mg "int" = none := PySem.W.mg_none_of X G z_int
  have y_b_len : mg "len" = none := PySem.W.mg_none_of X G z_len
  have y_b_abs : mg "abs" = none := PySem.W.mg_none_of X G z_abs
  have y_fn_law_draw : FnP K mg "_law_draw" s_law_draw ["_law_pen_here", "_law_many"] := ⟨_, _, PySem.W.mg_of X G a_law_draw, (funMk (st := s_law_draw) l_law_draw c_law_draw k_law_draw), binds_of (kbN (ps := ["_law_pen_here", "_law_many"]) (n := 2) (ks := []) fun us ws h1 h2 => match us, h1, ws, h2 with | [_, _], _, [], _ => rfl) rfl⟩
  have y_fn_law_pick : FnP K mg "_law_pick" s_law_pick ["_law_pen_here", "_law_some"] := ⟨_, _, PySem.W.mg_of X G a_law_pick, (funMk (st := s_law_pick) l_law_pick c_law_pick k_law_pick), binds_of (kbN (ps := ["_law_pen_here", "_law_some"]) (n := 2) (ks := []) fun us ws h1 h2 => match us, h1, ws, h2 with | [_, _], _, [], _ => rfl) rfl⟩
  have y_fn_law_names : FnP K mg "_law_names" s_law_names ["_law_pen_here", "_law_many"] := ⟨_, _, PySem.W.mg_of X G a_law_names, (funMk (st := s_law_names) l_law_names c_law_names k_law_names), binds_of (kbN (ps := ["_law_pen_here", "_law_many"]) (n := 2) (ks := []) fun us ws h1 h2 => match us, h1, ws, h2 with | [_, _], _, [], _ => rfl) rfl⟩
  have y_fn_law_digits : FnP K mg "_law_digits" s_law_digits ["_law_pen_here", "_law_many"] := ⟨_, _, PySem.W.mg_of X G a_law_digits, (funMk (st := s_law_digits) l_law_digits c_law_digits k_law_digits), binds_of (kbN (ps := ["_law_pen_here", "_law_many"]) (n := 2) (ks := []) fun us ws h1 h2 => match us, h1, ws, h2 with | [_, _], _, [], _ => rfl) rfl⟩
  have y_b_min : mg "min" = none := PySem.W.mg_none_of X G z_min
  have y_fn_law_row : FnP K mg "_law_row" s_law_row ["_law_pen_here", "_law_label", "_law_start", "_law_end"] := ⟨_, _, PySem.W.mg_of X G a_law_row, (funMk (st := s_law_row) l_law_row c_law_row k_law_row), binds_of (kbN (ps := ["_law_pen_here", "_law_label", "_law_start", "_law_end"]) (n := 4) (ks := []) fun us ws h1 h2 => match us, h1, ws, h2 with | [_, _, _, _], _, [], _ => rfl) rfl⟩
  have y_gs_ALPHABET : StrP mg "ALPHABET" "abcdefghijklmnopqrstuvwxyz" := ⟨_, PySem.W.mg_of X G gs_ALPHABET⟩
  have y_b_all : mg "all" = none := PySem.W.mg_none_of X G z_all
  have y_gi_LETTERS : IntP mg "LETTERS" 8 := ⟨_, PySem.W.mg_of X G gi_LETTERS⟩
  have y_b_isinstance : mg "isinstance" = none := PySem.W.mg_none_of X G z_isinstance
  have y_b_str : mg "str" = none := PySem.W.mg_none_of X G z_str
  have y_fn_is_name : FnP K mg "is_name" s_is_name ["value"] := ⟨_, _, PySem.W.mg_of X G a_is_name, (funMk (st := s_is_name) l_is_name c_is_name k_is_name), binds_of (kbN (ps := ["value"]) (n := 1) (ks := []) fun us ws h1 h2 => match us, h1, ws, h2 with | [_], _, [], _ => rfl) rfl⟩
  have y_fn_need_name : FnP K mg "need_name" s_need_name ["value"] := ⟨_, _, PySem.W.mg_of X G a_need_name, (funMk (st := s_need_name) l_need_name c_need_name k_need_name), binds_of (kbN (ps := ["value"]) (n := 1) (ks := []) fun us ws h1 h2 => match us, h1, ws, h2 with | [_], _, [], _ => rfl) rfl⟩
  have y_b_tuple : mg "tuple" = none := PySem.W.mg_none_of X G z_tuple
  have y_b_bool : mg "bool" = none := PySem.W.mg_none_of X G z_bool
  have y_fk_is_integer_1_least_most : FnKP K mg "is_integer" s_is_integer ["value", "least", "most"] 1 ["least", "most"] := ⟨_, _, PySem.W.mg_of X G a_is_integer, (funMk (st := s_is_integer) l_is_integer c_is_integer k_is_integer), (kbN (ps := ["value", "least", "most"]) (n := 1) (ks := ["least", "most"]) fun us ws h1 h2 => match us, h1, ws, h2 with | [_], _, [_, _], _ => rfl)⟩
  have y_ca_Office_RATE : CatP K mg "Office" "RATE" 9 := ⟨_, _, _, PySem.W.mg_of X G a_Office, ⟨cr_Office, cq_Office⟩, ⟨cv_Office_RATE, ⟨_, rfl⟩⟩⟩
  have y_fn_is_rate : FnP K mg "is_rate" s_is_rate ["value"] := ⟨_, _, PySem.W.mg_of X G a_is_rate, (funMk (st := s_is_rate) l_is_rate c_is_rate k_is_rate), binds_of (kbN (ps := ["value"]) (n := 1) (ks := []) fun us ws h1 h2 => match us, h1, ws, h2 with | [_], _, [], _ => rfl) rfl⟩
  have y_ex_InvalidNumber : ExcP K mg "InvalidNumber" "InvalidNumber.__init__" "value" "value" s_InvalidNumber_init "ValueError" "ValueError.__new__" "ValueError.__init__" [.type "ValueError", .type "Exception", .type "BaseException", .type "object"] := ⟨_, _, _, a_InvalidNumber, PySem.W.mg_of X G a_InvalidNumber, ⟨PySem.F.excBase_ValueError, ⟨_, _, _, _, _, _, _, _, _, _, _, _, _, _, xc_InvalidNumber⟩, fun _ => rfl, by decide +kernel, xs_InvalidNumber, xE_InvalidNumber, xt_InvalidNumber, xK_InvalidNumber⟩, xi_InvalidNumber, st_InvalidNumber_init, xo__InvalidNumber, (funMk (st := s_InvalidNumber_init) l_InvalidNumber_init c_InvalidNumber_init k_InvalidNumber_init), binds_of (kbN (ps := ["self", "value"]) (n := 2) (ks := []) fun us ws h1 h2 => match us, h1, ws, h2 with | [_, _], _, [], _ => rfl) rfl, xv_ValueError⟩
  have y_b_ValueError : mg "ValueError" = none := PySem.W.mg_none_of X G z_ValueError
  have y_fk_need_integer_1_least_most : FnKP K mg "need_integer" s_need_integer ["value", "least", "most"] 1 ["least", "most"] := ⟨_, _, PySem.W.mg_of X G a_need_integer, (funMk (st := s_need_integer) l_need_integer c_need_integer k_need_integer), (kbN (ps := ["value", "least", "most"]) (n := 1) (ks := ["least", "most"]) fun us ws h1 h2 => match us, h1, ws, h2 with | [_], _, [_, _], _ => rfl)⟩
  have y_co_FEE : ConOk K "FEE" 20 ["Office", "CappedOffice"] := (conC a_Office ⟨cg_Office, ch_Office, co_Office, cs_Office⟩ ⟨ck_Office_FEE, ⟨_, rfl⟩, rfl, by decide⟩ (conC a_CappedOffice ⟨cg_CappedOffice, ch_CappedOffice, co_CappedOffice, cs_CappedOffice⟩ ⟨ck_CappedOffice_FEE, ⟨_, rfl⟩, rfl, by decide⟩ con0))
  have y_co_LEAST : ConOk K "LEAST" 1000 ["Office", "CappedOffice"] := (conC a_Office ⟨cg_Office, ch_Office, co_Office, cs_Office⟩ ⟨ck_Office_LEAST, ⟨_, rfl⟩, rfl, by decide⟩ (conC a_CappedOffice ⟨cg_CappedOffice, ch_CappedOffice, co_CappedOffice, cs_CappedOffice⟩ ⟨ck_CappedOffice_LEAST, ⟨_, rfl⟩, rfl, by decide⟩ con0))
  have y_fo_name : FldOk K "name" ["Office", "CappedOffice"] := (fldC a_Office ⟨cg_Office, ch_Office, co_Office, cs_Office⟩ na_Office_name (fldC a_CappedOffice ⟨cg_CappedOffice, ch_CappedOffice, co_CappedOffice, cs_CappedOffice⟩ na_CappedOffice_name fld0))
  have y_fo_own_ends : FldOk K "own_ends" ["Office", "CappedOffice"] := (fldC a_Office ⟨cg_Office, ch_Office, co_Office, cs_Office⟩ na_Office_own_ends (fldC a_CappedOffice ⟨cg_CappedOffice, ch_CappedOffice, co_CappedOffice, cs_CappedOffice⟩ na_CappedOffice_own_ends fld0))
  have y_fo_own_rate : FldOk K "own_rate" ["Office", "CappedOffice"] := (fldC a_Office ⟨cg_Office, ch_Office, co_Office, cs_Office⟩ na_Office_own_rate (fldC a_CappedOffice ⟨cg_CappedOffice, ch_CappedOffice, co_CappedOffice, cs_CappedOffice⟩ na_CappedOffice_own_rate fld0))
  have y_fo_own_fee : FldOk K "own_fee" ["Office", "CappedOffice"] := (fldC a_Office ⟨cg_Office, ch_Office, co_Office, cs_Office⟩ na_Office_own_fee (fldC a_CappedOffice ⟨cg_CappedOffice, ch_CappedOffice, co_CappedOffice, cs_CappedOffice⟩ na_CappedOffice_own_fee fld0))
  have y_fo_own_least : FldOk K "own_least" ["Office", "CappedOffice"] := (fldC a_Office ⟨cg_Office, ch_Office, co_Office, cs_Office⟩ na_Office_own_least (fldC a_CappedOffice ⟨cg_CappedOffice, ch_CappedOffice, co_CappedOffice, cs_CappedOffice⟩ na_CappedOffice_own_least fld0))
  have y_mk_Office_4_fee_least : MkP K mg "Office" "Office.__init__" s_Office_init ["self", "name", "source", "goal", "rate", "fee", "least"] 4 ["fee", "least"] := ⟨_, _, _, a_Office, PySem.W.mg_of X G a_Office, ⟨mm_Office, mi_Office, mf_Office_init, mc_Office⟩, (funMk (st := s_Office_init) l_Office_init c_Office_init k_Office_init), (kbN (ps := ["self", "name", "source", "goal", "rate", "fee", "least"]) (n := 5) (ks := ["fee", "least"]) fun us ws h1 h2 => match us, h1, ws, h2 with | [_, _, _, _, _], _, [_, _], _ => rfl)⟩
  have y_su_CappedOffice_CappedOffice_init_5_fee_least : SupP K "CappedOffice" "CappedOffice" "__init__" "Office.__init__" s_Office_init ["self", "name", "source", "goal", "rate", "fee", "least"] 5 ["fee", "least"] := ⟨_, _, _, _, a_CappedOffice, a_CappedOffice, ⟨sr_CappedOffice_CappedOffice, sa_CappedOffice_CappedOffice_init, st_Office_init, fi_Office_init, zo_any⟩, (funMk (st := s_Office_init) l_Office_init c_Office_init k_Office_init), (kbN (ps := ["self", "name", "source", "goal", "rate", "fee", "least"]) (n := 5) (ks := ["fee", "least"]) fun us ws h1 h2 => match us, h1, ws, h2 with | [_, _, _, _, _], _, [_, _], _ => rfl)⟩
  have y_co_MOST : ConOk K "MOST" 1000000 ["CappedOffice"] := (conC a_CappedOffice ⟨cg_CappedOffice, ch_CappedOffice, co_CappedOffice, cs_CappedOffice⟩ ⟨ck_CappedOffice_MOST, ⟨_, rfl⟩, rfl, by decide⟩ con0)
  have y_fo_own_most : FldOk K "own_most" ["CappedOffice"] := (fldC a_CappedOffice ⟨cg_CappedOffice, ch_CappedOffice, co_CappedOffice, cs_CappedOffice⟩ na_CappedOffice_own_most fld0)
  have y_mk_CappedOffice_4_most_fee_least : MkS l.prog K mg "CappedOffice" "CappedOffice.__init__" "CappedOffice" s_CappedOffice_init ["self", "name", "source", "goal", "rate", "most", "fee", "least"] 4 ["most", "fee", "least"] := ⟨_, _, _, _, _, _, a_CappedOffice, PySem.W.mg_of X G a_CappedOffice, ⟨mm_CappedOffice, mi_CappedOffice, mf_CappedOffice_init, mc_CappedOffice⟩, ⟨⟨_, _, _, _, _, _, _, _, _, rfl, l_CappedOffice_init, c_CappedOffice_init⟩, ⟨_, _, _, _, e_CappedOffice_init⟩⟩, ⟨PySem.W.mg_none_of X G z_super, ⟨_, _, _, _, _, l_CappedOffice_init, rfl, rfl⟩, ⟨_, _, _, _, _, _, g_CappedOffice_init, h_CappedOffice_init, i_CappedOffice_init⟩, zt_super, ⟨_, _, _, e_CappedOffice_init⟩, ⟨_, cd_CappedOffice⟩⟩, a_CappedOffice, (kbX (ps := ["self", "name", "source", "goal", "rate", "most", "fee", "least"]) (n := 5) (ks := ["most", "fee", "least"]) fun us ws h1 h2 => match us, h1, ws, h2 with | [_, _, _, _, _], _, [_, _, _], _ => rfl)⟩
  have y_fn_law_made : FnP K mg "_law_made" s_law_made ["_law_row_here"] := ⟨_, _, PySem.W.mg_of X G a_law_made, (funMk (st := s_law_made) l_law_made c_law_made k_law_made), binds_of (kbN (ps := ["_law_row_here"]) (n := 1) (ks := []) fun us ws h1 h2 => match us, h1, ws, h2 with | [_], _, [], _ => rfl) rfl⟩
  have y_fn_law_any : FnP K mg "_law_any" s_law_any ["_law_pen_here"] := ⟨_, _, PySem.W.mg_of X G a_law_any, (funMk (st := s_law_any) l_law_any c_law_any k_law_any), binds_of (kbN (ps := ["_law_pen_here"]) (n := 1) (ks := []) fun us ws h1 h2 => match us, h1, ws, h2 with | [_], _, [], _ => rfl) rfl⟩
  have y_b_max : mg "max" = none := PySem.W.mg_none_of X G z_max
  have y_fn_law_amount : FnP K mg "_law_amount" s_law_amount ["_law_pen_here", "_law_row_here"] := ⟨_, _, PySem.W.mg_of X G a_law_amount, (funMk (st := s_law_amount) l_law_amount c_law_amount k_law_amount), binds_of (kbN (ps := ["_law_pen_here", "_law_row_here"]) (n := 2) (ks := []) fun us ws h1 h2 => match us, h1, ws, h2 with | [_, _], _, [], _ => rfl) rfl⟩
  have y_fn_law_is_integer : FnP K mg "_law_is_integer" s_law_is_integer ["_law_value", "_law_low", "_law_high"] := ⟨_, _, PySem.W.mg_of X G a_law_is_integer, (funMk (st := s_law_is_integer) l_law_is_integer c_law_is_integer k_law_is_integer), binds_of (kbN (ps := ["_law_value", "_law_low", "_law_high"]) (n := 3) (ks := []) fun us ws h1 h2 => match us, h1, ws, h2 with | [_, _, _], _, [], _ => rfl) rfl⟩
  have y_b_repr : mg "repr" = none := PySem.W.mg_none_of X G z_repr
  have y_fn_law_result : FnP K mg "_law_result" s_law_result ["_law_row_here", "_law_number"] := ⟨_, _, PySem.W.mg_of X G a_law_result, (funMk (st := s_law_result) l_law_result c_law_result k_law_result), binds_of (kbN (ps := ["_law_row_here", "_law_number"]) (n := 2) (ks := []) fun us ws h1 h2 => match us, h1, ws, h2 with | [_, _], _, [], _ => rfl) rfl⟩
  have y_fn_law_due : FnP K mg "_law_due" s_law_due ["_law_row_here", "_law_value"] := ⟨_, _, PySem.W.mg_of X G a_law_due, (funMk (st := s_law_due) l_law_due c_law_due k_law_due), binds_of (kbN (ps := ["_law_row_here", "_law_value"]) (n := 2) (ks := []) fun us ws h1 h2 => match us, h1, ws, h2 with | [_, _], _, [], _ => rfl) rfl⟩
  have y_kp_Closed_InvalidNumber : ∃ C0, ∃ C1, mg "Closed" = some (.ref C0) ∧ mg "InvalidNumber" = some (.ref C1) ∧ KpTab K (fun cls => PySem.W.exmAny K cls [.ref C0, .ref C1]) [("Closed", true), ("InvalidNumber", true)] := ⟨_, _, PySem.W.mg_of X G a_Closed, PySem.W.mg_of X G a_InvalidNumber, (kpC a_Closed (eaC et_Closed_Closed (eaC et_InvalidNumber_Closed ea0)) (kpC a_InvalidNumber (eaC et_Closed_InvalidNumber (eaC et_InvalidNumber_InvalidNumber ea0)) kp0))⟩
  have y_ix_Closed : ∃ D0, mg "Closed" = some (.ref D0) ∧ IxTab K [.ref D0] [("Closed", true), ("InvalidNumber", false)] := ⟨_, PySem.W.mg_of X G a_Closed, (ixC a_Closed ⟨(clsOf vd_Closed), vg_Closed, vh_Closed, xE_Closed, ia_Closed, iz_hn, iz_htk, io_Closed⟩ (kaT kt_Closed_Closed) (ixC a_InvalidNumber ⟨(clsOf vd_InvalidNumber), vg_InvalidNumber, vh_InvalidNumber, xE_InvalidNumber, ia_InvalidNumber, iz_hn, iz_htk, io_InvalidNumber⟩ (kaF kt_InvalidNumber_Closed ka0) (ix0 ⟨(kaF kb_Closed_NoneType ka0), (kaF kb_Closed_bool ka0), (kaF kb_Closed_int ka0), (kaF kb_Closed_str ka0), (kaF kb_Closed_tuple ka0), (kaF kb_Closed_list ka0), (kaF kb_Closed_dict ka0)⟩)))⟩
  have y_ix_InvalidNumber_ValueError : ∃ D0, mg "InvalidNumber" = some (.ref D0) ∧ IxTab K [.ref D0, .type "ValueError"] [("Closed", false), ("InvalidNumber", true)] := ⟨_, PySem.W.mg_of X G a_InvalidNumber, (ixC a_Closed ⟨(clsOf vd_Closed), vg_Closed, vh_Closed, xE_Closed, ia_Closed, iz_hn, iz_htk, io_Closed⟩ (kaF kt_Closed_InvalidNumber (kaF kt_Closed_ValueError ka0)) (ixC a_InvalidNumber ⟨(clsOf vd_InvalidNumber), vg_InvalidNumber, vh_InvalidNumber, xE_InvalidNumber, ia_InvalidNumber, iz_hn, iz_htk, io_InvalidNumber⟩ (kaT kt_InvalidNumber_InvalidNumber) (ix0 ⟨(kaF kb_InvalidNumber_NoneType (kaF kb_ValueError_NoneType ka0)), (kaF kb_InvalidNumber_bool (kaF kb_ValueError_bool ka0)), (kaF kb_InvalidNumber_int (kaF kb_ValueError_int ka0)), (kaF kb_InvalidNumber_str (kaF kb_ValueError_str ka0)), (kaF kb_InvalidNumber_tuple (kaF kb_ValueError_tuple ka0)), (kaF kb_InvalidNumber_list (kaF kb_ValueError_list ka0)), (kaF kb_InvalidNumber_dict (kaF kb_ValueError_dict ka0))⟩)))⟩
  have y_ix_RuntimeError : IxTab K [.type "RuntimeError"] [("Closed", true), ("InvalidNumber", false)] := (ixC a_Closed ⟨(clsOf vd_Closed), vg_Closed, vh_Closed, xE_Closed, ia_Closed, iz_hn, iz_htk, io_Closed⟩ (kaT kt_Closed_RuntimeError) (ixC a_InvalidNumber ⟨(clsOf vd_InvalidNumber), vg_InvalidNumber, vh_InvalidNumber, xE_InvalidNumber, ia_InvalidNumber, iz_hn, iz_htk, io_InvalidNumber⟩ (kaF kt_InvalidNumber_RuntimeError ka0) (ix0 ⟨(kaF kb_RuntimeError_NoneType ka0), (kaF kb_RuntimeError_bool ka0), (kaF kb_RuntimeError_int ka0), (kaF kb_RuntimeError_str ka0), (kaF kb_RuntimeError_tuple ka0), (kaF kb_RuntimeError_list ka0), (kaF kb_RuntimeError_dict ka0)⟩)))
  have y_b_RuntimeError : mg "RuntimeError" = none := PySem.W.mg_none_of X G z_RuntimeError
  have y_xf_name : XFldOk K "name" ["Closed"] := (xfC a_Closed ⟨vg_Closed, vh_Closed, xE_Closed, vd_Closed⟩ vn_Closed_name xf0)
  have y_ix_ValueError : IxTab K [.type "ValueError"] [("Closed", false), ("InvalidNumber", true)] := (ixC a_Closed ⟨(clsOf vd_Closed), vg_Closed, vh_Closed, xE_Closed, ia_Closed, iz_hn, iz_htk, io_Closed⟩ (kaF kt_Closed_ValueError ka0) (ixC a_InvalidNumber ⟨(clsOf vd_InvalidNumber), vg_InvalidNumber, vh_InvalidNumber, xE_InvalidNumber, ia_InvalidNumber, iz_hn, iz_htk, io_InvalidNumber⟩ (kaT kt_InvalidNumber_ValueError) (ix0 ⟨(kaF kb_ValueError_NoneType ka0), (kaF kb_ValueError_bool ka0), (kaF kb_ValueError_int ka0), (kaF kb_ValueError_str ka0), (kaF kb_ValueError_tuple ka0), (kaF kb_ValueError_list ka0), (kaF kb_ValueError_dict ka0)⟩)))
  have y_xf_value : XFldOk K "value" ["InvalidNumber"] := (xfC a_InvalidNumber ⟨vg_InvalidNumber, vh_InvalidNumber, xE_InvalidNumber, vd_InvalidNumber⟩ vn_InvalidNumber_value xf0)
  have y_gi_COINS : IntP mg "COINS" 1000000000000000000000000000000 := ⟨_, PySem.W.mg_of X G gi_COINS⟩
  have y_fn_need_amount : FnP K mg "need_amount" s_need_amount ["value"] := ⟨_, _, PySem.W.mg_of X G a_need_amount, (funMk (st := s_need_amount) l_need_amount c_need_amount k_need_amount), binds_of (kbN (ps := ["value"]) (n := 1) (ks := []) fun us ws h1 h2 => match us, h1, ws, h2 with | [_], _, [], _ => rfl) rfl⟩
  have y_su_CappedOffice_CappedOffice_result_2 : SupP K "CappedOffice" "CappedOffice" "result" "Office.result" s_Office_result ["self", "coins"] 2 [] := ⟨_, _, _, _, a_CappedOffice, a_CappedOffice, ⟨sr_CappedOffice_CappedOffice, sa_CappedOffice_CappedOffice_result, st_Office_result, fi_Office_result, zo_any⟩, (funMk (st := s_Office_result) l_Office_result c_Office_result k_Office_result), (kbN (ps := ["self", "coins"]) (n := 2) (ks := []) fun us ws h1 h2 => match us, h1, ws, h2 with | [_, _], _, [], _ => rfl)⟩
  have y_me_CappedOffice_result_2 : MthS l.prog K mg "CappedOffice" "result" "CappedOffice.result" "CappedOffice" s_CappedOffice_result ["self", "coins"] 2 [] := ⟨_, _, _, _, _, _, a_CappedOffice, ⟨cg_CappedOffice, ch_CappedOffice, co_CappedOffice, cs_CappedOffice⟩, ⟨m_CappedOffice_result, mf_CappedOffice_result, k_CappedOffice_result⟩, ⟨⟨_, _, _, _, _, _, _, _, _, rfl, l_CappedOffice_result, c_CappedOffice_result⟩, ⟨_, _, _, _, e_CappedOffice_result⟩⟩, ⟨PySem.W.mg_none_of X G z_super, ⟨_, _, _, _, _, l_CappedOffice_result, rfl, rfl⟩, ⟨_, _, _, _, _, _, g_CappedOffice_result, h_CappedOffice_result, i_CappedOffice_result⟩, zt_super, ⟨_, _, _, e_CappedOffice_result⟩, ⟨_, cd_CappedOffice⟩⟩, a_CappedOffice, (kbX (ps := ["self", "coins"]) (n := 2) (ks := []) fun us ws h1 h2 => match us, h1, ws, h2 with | [_, _], _, [], _ => rfl)⟩
  have y_me_Office_result_2 : MthP K "Office" "result" "Office.result" s_Office_result ["self", "coins"] 2 [] := ⟨_, _, _, a_Office, ⟨cg_Office, ch_Office, co_Office, cs_Office⟩, ⟨m_Office_result, mf_Office_result, k_Office_result⟩, (funMk (st := s_Office_result) l_Office_result c_Office_result k_Office_result), (kbN (ps := ["self", "coins"]) (n := 2) (ks := []) fun us ws h1 h2 => match us, h1, ws, h2 with | [_, _], _, [], _ => rfl)⟩
  have y_ex_Closed : ExcP K mg "Closed" "Closed.__init__" "name" "name" s_Closed_init "RuntimeError" "RuntimeError.__new__" "RuntimeError.__init__" [.type "RuntimeError", .type "Exception", .type "BaseException", .type "object"] := ⟨_, _, _, a_Closed, PySem.W.mg_of X G a_Closed, ⟨PySem.F.excBase_RuntimeError, ⟨_, _, _, _, _, _, _, _, _, _, _, _, _, _, xc_Closed⟩, fun _ => rfl, by decide +kernel, xs_Closed, xE_Closed, xt_Closed, xK_Closed⟩, xi_Closed, st_Closed_init, xo__Closed, (funMk (st := s_Closed_init) l_Closed_init c_Closed_init k_Closed_init), binds_of (kbN (ps := ["self", "name"]) (n := 2) (ks := []) fun us ws h1 h2 => match us, h1, ws, h2 with | [_, _], _, [], _ => rfl) rfl, xv_RuntimeError⟩
  have y_in_CappedOffice_2 : InsP K "CappedOffice" "Office.__call__" s_Office_call ["self", "amount"] 2 := ⟨_, _, _, a_CappedOffice, ⟨m_CappedOffice_call, mf_Office_call, fi_Office_call⟩, (funMk (st := s_Office_call) l_Office_call c_Office_call k_Office_call), (kbN (ps := ["self", "amount"]) (n := 2) (ks := []) fun us ws h1 h2 => match us, h1, ws, h2 with | [_, _], _, [], _ => rfl)⟩
  have y_in_Office_2 : InsP K "Office" "Office.__call__" s_Office_call ["self", "amount"] 2 := ⟨_, _, _, a_Office, ⟨m_Office_call, mf_Office_call, fi_Office_call⟩, (funMk (st := s_Office_call) l_Office_call c_Office_call k_Office_call), (kbN (ps := ["self", "amount"]) (n := 2) (ks := []) fun us ws h1 h2 => match us, h1, ws, h2 with | [_, _], _, [], _ => rfl)⟩
  have y_fn_law_told : FnP K mg "_law_told" s_law_told ["_law_call"] := ⟨_, _, PySem.W.mg_of X G a_law_told, (funMk (st := s_law_told) l_law_told c_law_told k_law_told), binds_of (kbN (ps := ["_law_call"]) (n := 1) (ks := []) fun us ws h1 h2 => match us, h1, ws, h2 with | [_], _, [], _ => rfl) rfl⟩
  have y_me_CappedOffice_is_open_2 : MthP K "CappedOffice" "is_open" "Office.is_open" s_Office_is_open ["self", "amount"] 2 [] := ⟨_, _, _, a_CappedOffice, ⟨cg_CappedOffice, ch_CappedOffice, co_CappedOffice, cs_CappedOffice⟩, ⟨m_CappedOffice_is_open, mf_Office_is_open, k_Office_is_open⟩, (funMk (st := s_Office_is_open) l_Office_is_open c_Office_is_open k_Office_is_open), (kbN (ps := ["self", "amount"]) (n := 2) (ks := []) fun us ws h1 h2 => match us, h1, ws, h2 with | [_, _], _, [], _ => rfl)⟩
  have y_me_Office_is_open_2 : MthP K "Office" "is_open" "Office.is_open" s_Office_is_open ["self", "amount"] 2 [] := ⟨_, _, _, a_Office, ⟨cg_Office, ch_Office, co_Office, cs_Office⟩, ⟨m_Office_is_open, mf_Office_is_open, k_Office_is_open⟩, (funMk (st := s_Office_is_open) l_Office_is_open c_Office_is_open k_Office_is_open), (kbN (ps := ["self", "amount"]) (n := 2) (ks := []) fun us ws h1 h2 => match us, h1, ws, h2 with | [_, _], _, [], _ => rfl)⟩
  have y_pp_CappedOffice_most : PrpP K "CappedOffice" "most" "CappedOffice.most" s_CappedOffice_most := ⟨_, _, _, _, a_CappedOffice, ⟨cg_CappedOffice, ch_CappedOffice, co_CappedOffice, cs_CappedOffice⟩, ⟨m_CappedOffice_most, pg_CappedOffice_most, pt_CappedOffice_most, ⟨_, pr_CappedOffice_most⟩⟩, (funMk (st := s_CappedOffice_most) l_CappedOffice_most c_CappedOffice_most k_CappedOffice_most), (kbN (ps := ["self"]) (n := 1) (ks := []) fun us ws h1 h2 => match us, h1, ws, h2 with | [_], _, [], _ => rfl)⟩
  have y_pp_Office_most : PrpP K "Office" "most" "Office.most" s_Office_most := ⟨_, _, _, _, a_Office, ⟨cg_Office, ch_Office, co_Office, cs_Office⟩, ⟨m_Office_most, pg_Office_most, pt_Office_most, ⟨_, pr_Office_most⟩⟩, (funMk (st := s_Office_most) l_Office_most c_Office_most k_Office_most), (kbN (ps := ["self"]) (n := 1) (ks := []) fun us ws h1 h2 => match us, h1, ws, h2 with | [_], _, [], _ => rfl)⟩
  have y_pp_CappedOffice_least : PrpP K "CappedOffice" "least" "Office.least" s_Office_least := ⟨_, _, _, _, a_CappedOffice, ⟨cg_CappedOffice, ch_CappedOffice, co_CappedOffice, cs_CappedOffice⟩, ⟨m_CappedOffice_least, pg_Office_least, pt_Office_least, ⟨_, pr_Office_least⟩⟩, (funMk (st := s_Office_least) l_Office_least c_Office_least k_Office_least), (kbN (ps := ["self"]) (n := 1) (ks := []) fun us ws h1 h2 => match us, h1, ws, h2 with | [_], _, [], _ => rfl)⟩
  have y_pp_Office_least : PrpP K "Office" "least" "Office.least" s_Office_least := ⟨_, _, _, _, a_Office, ⟨cg_Office, ch_Office, co_Office, cs_Office⟩, ⟨m_Office_least, pg_Office_least, pt_Office_least, ⟨_, pr_Office_least⟩⟩, (funMk (st := s_Office_least) l_Office_least c_Office_least k_Office_least), (kbN (ps := ["self"]) (n := 1) (ks := []) fun us ws h1 h2 => match us, h1, ws, h2 with | [_], _, [], _ => rfl)⟩
  have y_pp_CappedOffice_fee : PrpP K "CappedOffice" "fee" "Office.fee" s_Office_fee := ⟨_, _, _, _, a_CappedOffice, ⟨cg_CappedOffice, ch_CappedOffice, co_CappedOffice, cs_CappedOffice⟩, ⟨m_CappedOffice_fee, pg_Office_fee, pt_Office_fee, ⟨_, pr_Office_fee⟩⟩, (funMk (st := s_Office_fee) l_Office_fee c_Office_fee k_Office_fee), (kbN (ps := ["self"]) (n := 1) (ks := []) fun us ws h1 h2 => match us, h1, ws, h2 with | [_], _, [], _ => rfl)⟩
  have y_pp_Office_fee : PrpP K "Office" "fee" "Office.fee" s_Office_fee := ⟨_, _, _, _, a_Office, ⟨cg_Office, ch_Office, co_Office, cs_Office⟩, ⟨m_Office_fee, pg_Office_fee, pt_Office_fee, ⟨_, pr_Office_fee⟩⟩, (funMk (st := s_Office_fee) l_Office_fee c_Office_fee k_Office_fee), (kbN (ps := ["self"]) (n := 1) (ks := []) fun us ws h1 h2 => match us, h1, ws, h2 with | [_], _, [], _ => rfl)⟩
  have y_pp_CappedOffice_rate : PrpP K "CappedOffice" "rate" "Office.rate" s_Office_rate := ⟨_, _, _, _, a_CappedOffice, ⟨cg_CappedOffice, ch_CappedOffice, co_CappedOffice, cs_CappedOffice⟩, ⟨m_CappedOffice_rate, pg_Office_rate, pt_Office_rate, ⟨_, pr_Office_rate⟩⟩, (funMk (st := s_Office_rate) l_Office_rate c_Office_rate k_Office_rate), (kbN (ps := ["self"]) (n := 1) (ks := []) fun us ws h1 h2 => match us, h1, ws, h2 with | [_], _, [], _ => rfl)⟩
  have y_pp_Office_rate : PrpP K "Office" "rate" "Office.rate" s_Office_rate := ⟨_, _, _, _, a_Office, ⟨cg_Office, ch_Office, co_Office, cs_Office⟩, ⟨m_Office_rate, pg_Office_rate, pt_Office_rate, ⟨_, pr_Office_rate⟩⟩, (funMk (st := s_Office_rate) l_Office_rate c_Office_rate k_Office_rate), (kbN (ps := ["self"]) (n := 1) (ks := []) fun us ws h1 h2 => match us, h1, ws, h2 with | [_], _, [], _ => rfl)⟩
  have y_pp_CappedOffice_goal : PrpP K "CappedOffice" "goal" "Office.goal" s_Office_goal := ⟨_, _, _, _, a_CappedOffice, ⟨cg_CappedOffice, ch_CappedOffice, co_CappedOffice, cs_CappedOffice⟩, ⟨m_CappedOffice_goal, pg_Office_goal, pt_Office_goal, ⟨_, pr_Office_goal⟩⟩, (funMk (st := s_Office_goal) l_Office_goal c_Office_goal k_Office_goal), (kbN (ps := ["self"]) (n := 1) (ks := []) fun us ws h1 h2 => match us, h1, ws, h2 with | [_], _, [], _ => rfl)⟩
  have y_pp_Office_goal : PrpP K "Office" "goal" "Office.goal" s_Office_goal := ⟨_, _, _, _, a_Office, ⟨cg_Office, ch_Office, co_Office, cs_Office⟩, ⟨m_Office_goal, pg_Office_goal, pt_Office_goal, ⟨_, pr_Office_goal⟩⟩, (funMk (st := s_Office_goal) l_Office_goal c_Office_goal k_Office_goal), (kbN (ps := ["self"]) (n := 1) (ks := []) fun us ws h1 h2 => match us, h1, ws, h2 with | [_], _, [], _ => rfl)⟩
  have y_pp_CappedOffice_source : PrpP K "CappedOffice" "source" "Office.source" s_Office_source := ⟨_, _, _, _, a_CappedOffice, ⟨cg_CappedOffice, ch_CappedOffice, co_CappedOffice, cs_CappedOffice⟩, ⟨m_CappedOffice_source, pg_Office_source, pt_Office_source, ⟨_, pr_Office_source⟩⟩, (funMk (st := s_Office_source) l_Office_source c_Office_source k_Office_source), (kbN (ps := ["self"]) (n := 1) (ks := []) fun us ws h1 h2 => match us, h1, ws, h2 with | [_], _, [], _ => rfl)⟩
  have y_pp_Office_source : PrpP K "Office" "source" "Office.source" s_Office_source := ⟨_, _, _, _, a_Office, ⟨cg_Office, ch_Office, co_Office, cs_Office⟩, ⟨m_Office_source, pg_Office_source, pt_Office_source, ⟨_, pr_Office_source⟩⟩, (funMk (st := s_Office_source) l_Office_source c_Office_source k_Office_source), (kbN (ps := ["self"]) (n := 1) (ks := []) fun us ws h1 h2 => match us, h1, ws, h2 with | [_], _, [], _ => rfl)⟩
  have y_is_CappedOffice : ∃ D, mg "CappedOffice" = some (.ref D) ∧ IsoTab K D [("Office", false), ("CappedOffice", true)] := ⟨_, PySem.W.mg_of X G a_CappedOffice, (isoC a_Office ⟨⟨cg_Office, ch_Office, co_Office, cs_Office⟩, ia_Office, iz_hn, iz_htk, io_Office, kt_Office_Office⟩ kt_Office_CappedOffice (isoC a_CappedOffice ⟨⟨cg_CappedOffice, ch_CappedOffice, co_CappedOffice, cs_CappedOffice⟩, ia_CappedOffice, iz_hn, iz_htk, io_CappedOffice, kt_CappedOffice_CappedOffice⟩ kt_CappedOffice_CappedOffice (iso0 ⟨kb_CappedOffice_NoneType, kb_CappedOffice_bool, kb_CappedOffice_int, kb_CappedOffice_str, kb_CappedOffice_tuple, kb_CappedOffice_list, kb_CappedOffice_dict⟩)))⟩
  have y_fn_law_values : FnP K mg "_law_values" s_law_values ["_law_office"] := ⟨_, _, PySem.W.mg_of X G a_law_values, (funMk (st := s_law_values) l_law_values c_law_values k_law_values), binds_of (kbN (ps := ["_law_office"]) (n := 1) (ks := []) fun us ws h1 h2 => match us, h1, ws, h2 with | [_], _, [], _ => rfl) rfl⟩
  have Z : Zt l.prog K mg := ⟨y_b_list, y_fn_law_pen, y_b_range, y_b_int, y_b_len, y_b_abs, y_fn_law_draw, y_fn_law_pick, y_fn_law_names, y_fn_law_digits, y_b_min, y_fn_law_row, y_gs_ALPHABET, y_b_all, y_gi_LETTERS, y_b_isinstance, y_b_str, y_fn_is_name, y_fn_need_name, y_b_tuple, y_b_bool, y_fk_is_integer_1_least_most, y_ca_Office_RATE, y_fn_is_rate, y_ex_InvalidNumber, y_b_ValueError, y_fk_need_integer_1_least_most, y_co_FEE, y_co_LEAST, y_fo_name, y_fo_own_ends, y_fo_own_rate, y_fo_own_fee, y_fo_own_least, y_mk_Office_4_fee_least, y_su_CappedOffice_CappedOffice_init_5_fee_least, y_co_MOST, y_fo_own_most, y_mk_CappedOffice_4_most_fee_least, y_fn_law_made, y_fn_law_any, y_b_max, y_fn_law_amount, y_fn_law_is_integer, y_b_repr, y_fn_law_result, y_fn_law_due, y_kp_Closed_InvalidNumber, y_ix_Closed, y_ix_InvalidNumber_ValueError, y_ix_RuntimeError, y_b_RuntimeError, y_xf_name, y_ix_ValueError, y_xf_value, y_gi_COINS, y_fn_need_amount, y_su_CappedOffice_CappedOffice_result_2, y_me_CappedOffice_result_2, y_me_Office_result_2, y_ex_Closed, y_in_CappedOffice_2, y_in_Office_2, y_fn_law_told, y_me_CappedOffice_is_open_2, y_me_Office_is_open_2, y_pp_CappedOffice_most, y_pp_Office_most, y_pp_CappedOffice_least, y_pp_Office_least, y_pp_CappedOffice_fee, y_pp_Office_fee, y_pp_CappedOffice_rate, y_pp_Office_rate, y_pp_CappedOffice_goal, y_pp_Office_goal, y_pp_CappedOffice_source, y_pp_Office_source, y_is_CappedOffice, y_fn_law_values⟩
  exact ⟨_, fun s v => .of_eq rfl, fun base _ _ => pr_law Z _ _ (funMk (st := s_law) l_law c_law k_law) (lamK_of lm_law (PySem.W.mg_of X G a_builtins))⟩
theorem facts {w : World} {K : PySem.W.Frag} {h : Heap} {mg : Str → Option Value} {fa : Addr} (X : K.In h) (G : h.Ns mainGlobals mg) (hfa : mg "law" = some (.ref fa)) (c : Hs.Says ex fns K) :
    ∃ fd : FuncData, (∀ (s : Shared) (v : Value), BindsTo s fd ⟨[v], []⟩ [("_law_script", v)]) ∧ ∀ base : Heap, K.In base → base.Ns mainGlobals mg → FnG PySem.Challenge.rw_rounddown_k02_results_of_offices.prog w K mg base (L2.CX PySem.Challenge.rw_rounddown_k02_results_of_offices.prog w) 8 fa fd ["_law_script"] (spM K 1 m_law) := by
  obtain ⟨_, _, _, _, _, _, _, _, _, l_law, c_law⟩ := Hs.Df.get (c.def_ 0).1 (c.def_ 0).2 rfl rfl
  obtain ⟨_, _, _, _, _, _, _, _, _, l_law_pen, c_law_pen⟩ := Hs.Df.get (c.def_ 1).1 (c.def_ 1).2 rfl rfl
  obtain ⟨_, _, _, _, _, _, _, _, _, l_law_names, c_law_names⟩ := Hs.Df.get (c.def_ 2).1 (c.def_ 2).2 rfl rfl
  obtain ⟨_, _, _, _, _, _, _, _, _, l_law_draw, c_law_draw⟩ := Hs.Df.get (c.def_ 3).1 (c.def_ 3).2 rfl rfl
  obtain ⟨_, _, _, _, _, _, _, _, _, l_law_pick, c_law_pick⟩ := Hs.Df.get (c.def_ 4).1 (c.def_ 4).2 rfl rfl
  obtain ⟨_, _, _, _, _, _, _, _, _, l_law_row, c_law_row⟩ := Hs.Df.get (c.def_ 5).1 (c.def_ 5).2 rfl rfl
  obtain ⟨_, _, _, _, _, _, _, _, _, l_law_digits, c_law_digits⟩ := Hs.Df.get (c.def_ 6).1 (c.def_ 6).2 rfl rfl
  obtain ⟨_, _, _, _, _, _, _, _, _, l_law_made, c_law_made⟩ := Hs.Df.get (c.def_ 7).1 (c.def_ 7).2 rfl rfl
  obtain ⟨_, _, _, _, _, _, _, _, _, l_Office_init, c_Office_init⟩ := Hs.Df.get (c.def_ 8).1 (c.def_ 8).2 rfl rfl
  obtain ⟨_, _, _, _, _, _, _, _, _, l_need_name, c_need_name⟩ := Hs.Df.get (c.def_ 9).1 (c.def_ 9).2 rfl rfl
  obtain ⟨_, _, _, _, _, _, _, _, _, l_is_name, c_is_name⟩ := Hs.Df.get (c.def_ 10).1 (c.def_ 10).2 rfl rfl
  obtain ⟨_, _, _, _, _, _, _, _, _, l_is_rate, c_is_rate⟩ := Hs.Df.get (c.def_ 11).1 (c.def_ 11).2 rfl rfl
  obtain ⟨_, _, _, _, _, _, _, _, _, l_is_integer, c_is_integer⟩ := Hs.Df.get (c.def_ 12).1 (c.def_ 12).2 rfl rfl
  obtain ⟨_, _, _, _, _, _, _, _, _, l_need_integer, c_need_integer⟩ := Hs.Df.get (c.def_ 13).1 (c.def_ 13).2 rfl rfl
  obtain ⟨_, _, _, _, _, _, _, _, _, l_InvalidNumber_init, c_InvalidNumber_init⟩ := Hs.Df.get (c.def_ 14).1 (c.def_ 14).2 rfl rfl
  obtain ⟨_, _, _, _, _, _, _, cda_CappedOffice_init, _, l_CappedOffice_init, c_CappedOffice_init⟩ := Hs.Df.getX (c.def_ 15).1 (c.def_ 15).2 rfl rfl
  obtain ⟨_, _, _, e_CappedOffice_init⟩ := Hs.cellB_ok (c.fact 0)
  obtain ⟨_, _, _, _, _, _, g_CappedOffice_init, h_CappedOffice_init, i_CappedOffice_init⟩ := Hs.fileB_ok l_CappedOffice_init rfl (c.fact 1)
  obtain ⟨_, _, _, _, _, _, _, _, _, l_law_any, c_law_any⟩ := Hs.Df.get (c.def_ 16).1 (c.def_ 16).2 rfl rfl
  obtain ⟨_, _, _, _, _, _, _, _, _, l_law_amount, c_law_amount⟩ := Hs.Df.get (c.def_ 17).1 (c.def_ 17).2 rfl rfl
  obtain ⟨_, _, _, _, _, _, _, _, _, l_law_due, c_law_due⟩ := Hs.Df.get (c.def_ 18).1 (c.def_ 18).2 rfl rfl
  obtain ⟨_, _, _, _, _, _, _, _, _, l_law_is_integer, c_law_is_integer⟩ := Hs.Df.get (c.def_ 19).1 (c.def_ 19).2 rfl rfl
  obtain ⟨_, _, _, _, _, _, _, _, _, l_law_result, c_law_result⟩ := Hs.Df.get (c.def_ 20).1 (c.def_ 20).2 rfl rfl
  obtain ⟨_, _, _, _, _, _, _, _, _, l_law_told, c_law_told⟩ := Hs.Df.get (c.def_ 21).1 (c.def_ 21).2 rfl rfl
  obtain ⟨_, _, _, _, _, _, _, _, _, l_Office_call, c_Office_call⟩ := Hs.Df.get (c.def_ 22).1 (c.def_ 22).2 rfl rfl
  obtain ⟨_, _, _, _, _, _, _, _, _, l_need_amount, c_need_amount⟩ := Hs.Df.get (c.def_ 23).1 (c.def_ 23).2 rfl rfl
  obtain ⟨_, _, _, _, _, _, _, _, _, l_Office_result, c_Office_result⟩ := Hs.Df.get (c.def_ 24).1 (c.def_ 24).2 rfl rfl
  obtain ⟨_, _, _, _, _, _, _, cda_CappedOffice_result, _, l_CappedOffice_result, c_CappedOffice_result⟩ := Hs.Df.getX (c.def_ 25).1 (c.def_ 25).2 rfl rfl
  obtain ⟨_, _, _, e_CappedOffice_result⟩ := Hs.cellB_ok (c.fact 2)
  obtain ⟨_, _, _, _, _, _, g_CappedOffice_result, h_CappedOffice_result, i_CappedOffice_result⟩ := Hs.fileB_ok l_CappedOffice_result rfl (c.fact 3)
  obtain ⟨_, _, _, _, _, _, _, _, _, l_Closed_init, c_Closed_init⟩ := Hs.Df.get (c.def_ 26).1 (c.def_ 26).2 rfl rfl
  obtain ⟨_, _, _, _, _, _, _, _, _, l_Office_is_open, c_Office_is_open⟩ := Hs.Df.get (c.def_ 27).1 (c.def_ 27).2 rfl rfl
  obtain ⟨_, _, _, _, _, _, _, _, _, l_law_values, c_law_values⟩ := Hs.Df.get (c.def_ 28).1 (c.def_ 28).2 rfl rfl
  obtain ⟨_, _, _, _, _, _, _, _, _, l_Office_most, c_Office_most⟩ := Hs.Df.get (c.def_ 29).1 (c.def_ 29).2 rfl rfl
  obtain ⟨_, _, _, _, _, _, _, _, _, l_CappedOffice_most, c_CappedOffice_most⟩ := Hs.Df.get (c.def_ 30).1 (c.def_ 30).2 rfl rfl
  obtain ⟨_, _, _, _, _, _, _, _, _, l_Office_least, c_Office_least⟩ := Hs.Df.get (c.def_ 31).1 (c.def_ 31).2 rfl rfl
  obtain ⟨_, _, _, _, _, _, _, _, _, l_Office_fee, c_Office_fee⟩ := Hs.Df.get (c.def_ 32).1 (c.def_ 32).2 rfl rfl
  obtain ⟨_, _, _, _, _, _, _, _, _, l_Office_rate, c_Office_rate⟩ := Hs.Df.get (c.def_ 33).1 (c.def_ 33).2 rfl rfl
  obtain ⟨_, _, _, _, _, _, _, _, _, l_Office_goal, c_Office_goal⟩ := Hs.Df.get (c.def_ 34).1 (c.def_ 34).2 rfl rfl
  obtain ⟨_, _, _, _, _, _, _, _, _, l_Office_source, c_Office_source⟩ := Hs.Df.get (c.def_ 35).1 (c.def_ 35).2 rfl rfl
  obtain ⟨_, pr_CappedOffice_most⟩ := Hs.pf_ok (c.fact 52)
  obtain ⟨_, pr_Office_most⟩ := Hs.pf_ok (c.fact 53)
  obtain ⟨_, pr_Office_least⟩ := Hs.pf_ok (c.fact 54)
  obtain ⟨_, pr_Office_fee⟩ := Hs.pf_ok (c.fact 55)
  obtain ⟨_, pr_Office_rate⟩ := Hs.pf_ok (c.fact 56)
  obtain ⟨_, pr_Office_goal⟩ := Hs.pf_ok (c.fact 57)
  obtain ⟨_, pr_Office_source⟩ := Hs.pf_ok (c.fact 58)
  obtain ⟨_, _, _, _, _, _, _, _, _, _, _, _, _, _, xc_InvalidNumber⟩ := Hs.excB_ok (c.fact 59)
  obtain ⟨_, _, _, _, _, _, _, _, _, _, _, _, _, _, xc_Closed⟩ := Hs.excB_ok (c.fact 60)
  obtain ⟨_, gs_ALPHABET⟩ := Hs.strO_ok (c.fact 73)
  obtain ⟨_, gi_LETTERS⟩ := Hs.intO_ok (c.fact 75)
  obtain ⟨_, cv_Office_RATE⟩ := Hs.catO_ok (c.fact 85)
  have xv_ValueError := Hs.cvalO_ok (c.fact 94)
  obtain ⟨_, ck_CappedOffice_FEE⟩ := Hs.intO_ok (c.fact 101)
  obtain ⟨_, ck_Office_FEE⟩ := Hs.intO_ok (c.fact 106)
  obtain ⟨_, ck_CappedOffice_LEAST⟩ := Hs.intO_ok (c.fact 107)
  obtain ⟨_, ck_Office_LEAST⟩ := Hs.intO_ok (c.fact 108)
  obtain ⟨_, ck_CappedOffice_MOST⟩ := Hs.intO_ok (c.fact 128)
  obtain ⟨_, cd_CappedOffice⟩ := Option.isSome_iff_exists.mp (c.fact 130)
  have zt_super : (PySem.Challenge.pw_rounddown_k02_results_of_offices.main.scope.names.lookup ("super" : Str)).isSome = false := rfl
  obtain ⟨_, gi_COINS⟩ := Hs.intO_ok (c.fact 199)
  have xv_RuntimeError := Hs.cvalO_ok (c.fact 214)
  exact all_mk (l := PySem.Challenge.rw_rounddown_k02_results_of_offices) (w := w) X G hfa (a_law_pen := (of_decide_eq_true (c.fact 4))) (a_law_draw := (of_decide_eq_true (c.fact 5))) (a_law_pick := (of_decide_eq_true (c.fact 6))) (a_law_names := (of_decide_eq_true (c.fact 7))) (a_law_digits := (of_decide_eq_true (c.fact 8))) (a_law_row := (of_decide_eq_true (c.fact 9))) (a_is_name := (of_decide_eq_true (c.fact 10))) (a_need_name := (of_decide_eq_true (c.fact 11))) (a_is_integer := (of_decide_eq_true (c.fact 12))) (a_Office := (of_decide_eq_true (c.fact 13))) (a_is_rate := (of_decide_eq_true (c.fact 14))) (a_InvalidNumber := (of_decide_eq_true (c.fact 15))) (a_need_integer := (of_decide_eq_true (c.fact 16))) (a_CappedOffice := (of_decide_eq_true (c.fact 17))) (a_law_made := (of_decide_eq_true (c.fact 18))) (a_law_any := (of_decide_eq_true (c.fact 19))) (a_law_amount := (of_decide_eq_true (c.fact 20))) (a_law_is_integer := (of_decide_eq_true (c.fact 21))) (a_law_result := (of_decide_eq_true (c.fact 22))) (a_law_due := (of_decide_eq_true (c.fact 23))) (a_Closed := (of_decide_eq_true (c.fact 24))) (a_need_amount := (of_decide_eq_true (c.fact 25))) (a_law_told := (of_decide_eq_true (c.fact 26))) (a_law_values := (of_decide_eq_true (c.fact 27))) (a_builtins := (of_decide_eq_true (c.fact 28))) (a_law := (of_decide_eq_true (c.fact 29))) (xi_InvalidNumber := (of_decide_eq_true (c.fact 30))) (mi_Office := (of_decide_eq_true (c.fact 31))) (mi_CappedOffice := (of_decide_eq_true (c.fact 32))) (m_CappedOffice_result := (of_decide_eq_true (c.fact 33))) (m_Office_result := (of_decide_eq_true (c.fact 34))) (xi_Closed := (of_decide_eq_true (c.fact 35))) (m_CappedOffice_call := (of_decide_eq_true (c.fact 36))) (m_Office_call := (of_decide_eq_true (c.fact 37))) (m_CappedOffice_is_open := (of_decide_eq_true (c.fact 38))) (m_Office_is_open := (of_decide_eq_true (c.fact 39))) (m_CappedOffice_most := (of_decide_eq_true (c.fact 40))) (m_Office_most := (of_decide_eq_true (c.fact 41))) (m_CappedOffice_least := (of_decide_eq_true (c.fact 42))) (m_Office_least := (of_decide_eq_true (c.fact 43))) (m_CappedOffice_fee := (of_decide_eq_true (c.fact 44))) (m_Office_fee := (of_decide_eq_true (c.fact 45))) (m_CappedOffice_rate := (of_decide_eq_true (c.fact 46))) (m_Office_rate := (of_decide_eq_true (c.fact 47))) (m_CappedOffice_goal := (of_decide_eq_true (c.fact 48))) (m_Office_goal := (of_decide_eq_true (c.fact 49))) (m_CappedOffice_source := (of_decide_eq_true (c.fact 50))) (m_Office_source := (of_decide_eq_true (c.fact 51))) (pr_CappedOffice_most := pr_CappedOffice_most) (pr_Office_most := pr_Office_most) (pr_Office_least := pr_Office_least) (pr_Office_fee := pr_Office_fee) (pr_Office_rate := pr_Office_rate) (pr_Office_goal := pr_Office_goal) (pr_Office_source := pr_Office_source) (l_law_pen := l_law_pen) (l_law_draw := l_law_draw) (l_law_pick := l_law_pick) (l_law_names := l_law_names) (l_law_digits := l_law_digits) (l_law_row := l_law_row) (l_is_name := l_is_name) (l_need_name := l_need_name) (l_is_integer := l_is_integer) (l_is_rate := l_is_rate) (l_InvalidNumber_init := l_InvalidNumber_init) (xc_InvalidNumber := xc_InvalidNumber) (l_need_integer := l_need_integer) (l_Office_init := l_Office_init) (l_CappedOffice_init := l_CappedOffice_init) (l_law_made := l_law_made) (l_law_any := l_law_any) (l_law_amount := l_law_amount) (l_law_is_integer := l_law_is_integer) (l_law_result := l_law_result) (l_law_due := l_law_due) (l_need_amount := l_need_amount) (l_Office_result := l_Office_result) (l_CappedOffice_result := l_CappedOffice_result) (l_Closed_init := l_Closed_init) (xc_Closed := xc_Closed) (l_Office_call := l_Office_call) (l_law_told := l_law_told) (l_Office_is_open := l_Office_is_open) (l_CappedOffice_most := l_CappedOffice_most) (l_Office_most := l_Office_most) (l_Office_least := l_Office_least) (l_Office_fee := l_Office_fee) (l_Office_rate := l_Office_rate) (l_Office_goal := l_Office_goal) (l_Office_source := l_Office_source) (l_law_values := l_law_values) (l_law := l_law) (e_CappedOffice_init := e_CappedOffice_init) (g_CappedOffice_init := g_CappedOffice_init) (e_CappedOffice_result := e_CappedOffice_result) (g_CappedOffice_result := g_CappedOffice_result) (z_list := (of_decide_eq_true (c.fact 61))) (c_law_pen := c_law_pen) (k_law_pen := (c.fact 62)) (z_range := (of_decide_eq_true (c.fact 63))) (z_int := (of_decide_eq_true (c.fact 64))) (z_len := (of_decide_eq_true (c.fact 65))) (z_abs := (of_decide_eq_true (c.fact 66))) (c_law_draw := c_law_draw) (k_law_draw := (c.fact 67)) (c_law_pick := c_law_pick) (k_law_pick := (c.fact 68)) (c_law_names := c_law_names) (k_law_names := (c.fact 69)) (c_law_digits := c_law_digits) (k_law_digits := (c.fact 70)) (z_min := (of_decide_eq_true (c.fact 71))) (c_law_row := c_law_row) (k_law_row := (c.fact 72)) (gs_ALPHABET := gs_ALPHABET) (z_all := (of_decide_eq_true (c.fact 74))) (gi_LETTERS := gi_LETTERS) (z_isinstance := (of_decide_eq_true (c.fact 76))) (z_str := (of_decide_eq_true (c.fact 77))) (c_is_name := c_is_name) (k_is_name := (c.fact 78)) (c_need_name := c_need_name) (k_need_name := (c.fact 79)) (z_tuple := (of_decide_eq_true (c.fact 80))) (z_bool := (of_decide_eq_true (c.fact 81))) (c_is_integer := c_is_integer) (k_is_integer := (c.fact 82)) (cr_Office := (c.fact 83)) (cq_Office := (of_decide_eq_true (c.fact 84))) (cv_Office_RATE := cv_Office_RATE) (c_is_rate := c_is_rate) (k_is_rate := (c.fact 86)) (c_InvalidNumber_init := c_InvalidNumber_init) (k_InvalidNumber_init := (c.fact 87)) (xs_InvalidNumber := (of_decide_eq_true (c.fact 88))) (xE_InvalidNumber := (of_decide_eq_true (c.fact 89))) (xt_InvalidNumber := (of_decide_eq_true (c.fact 90))) (xK_InvalidNumber := (c.fact 91)) (st_InvalidNumber_init := (of_decide_eq_true (c.fact 92))) (xo__InvalidNumber := (of_decide_eq_true (c.fact 93))) (xv_ValueError := xv_ValueError) (z_ValueError := (of_decide_eq_true (c.fact 95))) (c_need_integer := c_need_integer) (k_need_integer := (c.fact 96)) (cg_CappedOffice := (c.fact 97)) (ch_CappedOffice := (c.fact 98)) (co_CappedOffice := (c.fact 99)) (cs_CappedOffice := (of_decide_eq_true (c.fact 100))) (ck_CappedOffice_FEE := ck_CappedOffice_FEE) (cg_Office := (c.fact 102)) (ch_Office := (c.fact 103)) (co_Office := (c.fact 104)) (cs_Office := (of_decide_eq_true (c.fact 105))) (ck_Office_FEE := ck_Office_FEE) (ck_CappedOffice_LEAST := ck_CappedOffice_LEAST) (ck_Office_LEAST := ck_Office_LEAST) (na_CappedOffice_name := (of_decide_eq_true (c.fact 109))) (na_Office_name := (of_decide_eq_true (c.fact 110))) (na_CappedOffice_own_ends := (of_decide_eq_true (c.fact 111))) (na_Office_own_ends := (of_decide_eq_true (c.fact 112))) (na_CappedOffice_own_rate := (of_decide_eq_true (c.fact 113))) (na_Office_own_rate := (of_decide_eq_true (c.fact 114))) (na_CappedOffice_own_fee := (of_decide_eq_true (c.fact 115))) (na_Office_own_fee := (of_decide_eq_true (c.fact 116))) (na_CappedOffice_own_least := (of_decide_eq_true (c.fact 117))) (na_Office_own_least := (of_decide_eq_true (c.fact 118))) (c_Office_init := c_Office_init) (k_Office_init := (c.fact 119)) (mm_Office := (c.fact 120)) (mf_Office_init := (c.fact 121)) (mc_Office := (c.fact 122)) (sr_CappedOffice_CappedOffice := (of_decide_eq_true (c.fact 123))) (sa_CappedOffice_CappedOffice_init := (of_decide_eq_true (c.fact 124))) (st_Office_init := (of_decide_eq_true (c.fact 125))) (fi_Office_init := (c.fact 126)) (zo_any := (of_decide_eq_true (c.fact 127))) (ck_CappedOffice_MOST := ck_CappedOffice_MOST) (na_CappedOffice_own_most := (of_decide_eq_true (c.fact 129))) (c_CappedOffice_init := c_CappedOffice_init) (h_CappedOffice_init := h_CappedOffice_init) (i_CappedOffice_init := i_CappedOffice_init) (cd_CappedOffice := cd_CappedOffice) (z_super := (of_decide_eq_true (c.fact 131))) (zt_super := zt_super) (mm_CappedOffice := (c.fact 132)) (mf_CappedOffice_init := (c.fact 133)) (mc_CappedOffice := (c.fact 134)) (c_law_made := c_law_made) (k_law_made := (c.fact 135)) (c_law_any := c_law_any) (k_law_any := (c.fact 136)) (z_max := (of_decide_eq_true (c.fact 137))) (c_law_amount := c_law_amount) (k_law_amount := (c.fact 138)) (c_law_is_integer := c_law_is_integer) (k_law_is_integer := (c.fact 139)) (z_repr := (of_decide_eq_true (c.fact 140))) (c_law_result := c_law_result) (k_law_result := (c.fact 141)) (c_law_due := c_law_due) (k_law_due := (c.fact 142)) (et_Closed_InvalidNumber := (of_decide_eq_true (c.fact 143))) (et_InvalidNumber_InvalidNumber := (of_decide_eq_true (c.fact 144))) (et_Closed_Closed := (of_decide_eq_true (c.fact 145))) (et_InvalidNumber_Closed := (of_decide_eq_true (c.fact 146))) (kb_Closed_NoneType := (of_decide_eq_true (c.fact 147))) (kb_Closed_bool := (of_decide_eq_true (c.fact 148))) (kb_Closed_int := (of_decide_eq_true (c.fact 149))) (kb_Closed_str := (of_decide_eq_true (c.fact 150))) (kb_Closed_tuple := (of_decide_eq_true (c.fact 151))) (kb_Closed_list := (of_decide_eq_true (c.fact 152))) (kb_Closed_dict := (of_decide_eq_true (c.fact 153))) (vd_InvalidNumber := (c.fact 154)) (vg_InvalidNumber := (of_decide_eq_true (c.fact 155))) (vh_InvalidNumber := (of_decide_eq_true (c.fact 156))) (ia_InvalidNumber := (of_decide_eq_true (c.fact 157))) (iz_hn := (of_decide_eq_true (c.fact 158))) (iz_htk := (of_decide_eq_true (c.fact 159))) (io_InvalidNumber := (of_decide_eq_true (c.fact 160))) (kt_InvalidNumber_Closed := (of_decide_eq_true (c.fact 161))) (vd_Closed := (c.fact 162)) (vg_Closed := (of_decide_eq_true (c.fact 163))) (vh_Closed := (of_decide_eq_true (c.fact 164))) (xE_Closed := (of_decide_eq_true (c.fact 165))) (ia_Closed := (of_decide_eq_true (c.fact 166))) (io_Closed := (of_decide_eq_true (c.fact 167))) (kt_Closed_Closed := (of_decide_eq_true (c.fact 168))) (kb_ValueError_NoneType := (of_decide_eq_true (c.fact 169))) (kb_InvalidNumber_NoneType := (of_decide_eq_true (c.fact 170))) (kb_ValueError_bool := (of_decide_eq_true (c.fact 171))) (kb_InvalidNumber_bool := (of_decide_eq_true (c.fact 172))) (kb_ValueError_int := (of_decide_eq_true (c.fact 173))) (kb_InvalidNumber_int := (of_decide_eq_true (c.fact 174))) (kb_ValueError_str := (of_decide_eq_true (c.fact 175))) (kb_InvalidNumber_str := (of_decide_eq_true (c.fact 176))) (kb_ValueError_tuple := (of_decide_eq_true (c.fact 177))) (kb_InvalidNumber_tuple := (of_decide_eq_true (c.fact 178))) (kb_ValueError_list := (of_decide_eq_true (c.fact 179))) (kb_InvalidNumber_list := (of_decide_eq_true (c.fact 180))) (kb_ValueError_dict := (of_decide_eq_true (c.fact 181))) (kb_InvalidNumber_dict := (of_decide_eq_true (c.fact 182))) (kt_InvalidNumber_ValueError := (of_decide_eq_true (c.fact 183))) (kt_InvalidNumber_InvalidNumber := (of_decide_eq_true (c.fact 184))) (kt_Closed_ValueError := (of_decide_eq_true (c.fact 185))) (kt_Closed_InvalidNumber := (of_decide_eq_true (c.fact 186))) (kb_RuntimeError_NoneType := (of_decide_eq_true (c.fact 187))) (kb_RuntimeError_bool := (of_decide_eq_true (c.fact 188))) (kb_RuntimeError_int := (of_decide_eq_true (c.fact 189))) (kb_RuntimeError_str := (of_decide_eq_true (c.fact 190))) (kb_RuntimeError_tuple := (of_decide_eq_true (c.fact 191))) (kb_RuntimeError_list := (of_decide_eq_true (c.fact 192))) (kb_RuntimeError_dict := (of_decide_eq_true (c.fact 193))) (kt_InvalidNumber_RuntimeError := (of_decide_eq_true (c.fact 194))) (kt_Closed_RuntimeError := (of_decide_eq_true (c.fact 195))) (z_RuntimeError := (of_decide_eq_true (c.fact 196))) (vn_Closed_name := (of_decide_eq_true (c.fact 197))) (vn_InvalidNumber_value := (of_decide_eq_true (c.fact 198))) (gi_COINS := gi_COINS) (c_need_amount := c_need_amount) (k_need_amount := (c.fact 200)) (sa_CappedOffice_CappedOffice_result := (of_decide_eq_true (c.fact 201))) (st_Office_result := (of_decide_eq_true (c.fact 202))) (fi_Office_result := (c.fact 203)) (c_Office_result := c_Office_result) (k_Office_result := (c.fact 204)) (mf_CappedOffice_result := (c.fact 205)) (k_CappedOffice_result := (c.fact 206)) (c_CappedOffice_result := c_CappedOffice_result) (h_CappedOffice_result := h_CappedOffice_result) (i_CappedOffice_result := i_CappedOffice_result) (mf_Office_result := (c.fact 207)) (c_Closed_init := c_Closed_init) (k_Closed_init := (c.fact 208)) (xs_Closed := (of_decide_eq_true (c.fact 209))) (xt_Closed := (of_decide_eq_true (c.fact 210))) (xK_Closed := (c.fact 211)) (st_Closed_init := (of_decide_eq_true (c.fact 212))) (xo__Closed := (of_decide_eq_true (c.fact 213))) (xv_RuntimeError := xv_RuntimeError) (mf_Office_call := (c.fact 215)) (fi_Office_call := (c.fact 216)) (c_Office_call := c_Office_call) (k_Office_call := (c.fact 217)) (c_law_told := c_law_told) (k_law_told := (c.fact 218)) (mf_Office_is_open := (c.fact 219)) (k_Office_is_open := (c.fact 220)) (c_Office_is_open := c_Office_is_open) (pg_CappedOffice_most := (of_decide_eq_true (c.fact 221))) (pt_CappedOffice_most := (of_decide_eq_true (c.fact 222))) (c_CappedOffice_most := c_CappedOffice_most) (k_CappedOffice_most := (c.fact 223)) (pg_Office_most := (of_decide_eq_true (c.fact 224))) (pt_Office_most := (of_decide_eq_true (c.fact 225))) (c_Office_most := c_Office_most) (k_Office_most := (c.fact 226)) (pg_Office_least := (of_decide_eq_true (c.fact 227))) (pt_Office_least := (of_decide_eq_true (c.fact 228))) (c_Office_least := c_Office_least) (k_Office_least := (c.fact 229)) (pg_Office_fee := (of_decide_eq_true (c.fact 230))) (pt_Office_fee := (of_decide_eq_true (c.fact 231))) (c_Office_fee := c_Office_fee) (k_Office_fee := (c.fact 232)) (pg_Office_rate := (of_decide_eq_true (c.fact 233))) (pt_Office_rate := (of_decide_eq_true (c.fact 234))) (c_Office_rate := c_Office_rate) (k_Office_rate := (c.fact 235)) (pg_Office_goal := (of_decide_eq_true (c.fact 236))) (pt_Office_goal := (of_decide_eq_true (c.fact 237))) (c_Office_goal := c_Office_goal) (k_Office_goal := (c.fact 238)) (pg_Office_source := (of_decide_eq_true (c.fact 239))) (pt_Office_source := (of_decide_eq_true (c.fact 240))) (c_Office_source := c_Office_source) (k_Office_source := (c.fact 241)) (kb_CappedOffice_NoneType := (of_decide_eq_true (c.fact 242))) (kb_CappedOffice_bool := (of_decide_eq_true (c.fact 243))) (kb_CappedOffice_int := (of_decide_eq_true (c.fact 244))) (kb_CappedOffice_str := (of_decide_eq_true (c.fact 245))) (kb_CappedOffice_tuple := (of_decide_eq_true (c.fact 246))) (kb_CappedOffice_list := (of_decide_eq_true (c.fact 247))) (kb_CappedOffice_dict := (of_decide_eq_true (c.fact 248))) (ia_CappedOffice := (of_decide_eq_true (c.fact 249))) (io_CappedOffice := (of_decide_eq_true (c.fact 250))) (kt_CappedOffice_CappedOffice := (of_decide_eq_true (c.fact 251))) (ia_Office := (of_decide_eq_true (c.fact 252))) (io_Office := (of_decide_eq_true (c.fact 253))) (kt_Office_Office := (of_decide_eq_true (c.fact 254))) (kt_Office_CappedOffice := (of_decide_eq_true (c.fact 255))) (c_law_values := c_law_values) (k_law_values := (c.fact 256)) (c_law := c_law) (k_law := (c.fact 257)) (lm_law := (c.fact 258))
end Lw
/-! Lp: plain rules of function values. -/
namespace Dn
open PySem
open L2 hiding bin
section
variable {E : PV → S → Prop} {s s1 s2 : S} {Q : PV → S → Prop} {pre : M (List PV)} {is : List Nat} {q : Str} {mE : Fn} {mT : Clo → Fn} {n i : Nat} {env : Env} {st : List MO} {φ : Clo} {as ds : List PV} {d : PV}
def lamK (E : PV → S → Prop) (is : List Nat) (q : Str) (mE : Fn) (mT : Clo → Fn) (n : Nat) (as : List PV) (s1 : S) (Q : PV → S → Prop) : Prop := match capS is s1 with
  | none => False
  | some p => OkFx (fun e st => E e { p.2 with sto := st }) (anyR fun f c us => mT ⟨q, f, c, us, p.1, mE⟩ n (as ++ [Clo.tok ⟨q, f, c, us, p.1, mE⟩]) p.2.sto) (fun d st => Q d { p.2 with sto := st })
theorem okx_res {c : M PV} {r : RR} {s s0 : S} (h : c s0 = resM s r) : Okx E c s0 Q ↔ OkFx (fun e st => E e { s with sto := st }) r (fun d st => Q d { s with sto := st }) := by
  unfold Okx
  rw [h]
  cases r <;> exact Iff.rfl
theorem lamEq : Okx E (fun s => match capS is s with
    | none => Res.stk
    | some p => resM p.2 (anyR fun f c us => mT ⟨q, f, c, us, p.1, mE⟩ n (as ++ [Clo.tok ⟨q, f, c, us, p.1, mE⟩]) p.2.sto)) s1 Q ↔ lamK E is q mE mT n as s1 Q := by
  cases e : capS is s1 with
  | none =>
    unfold Okx lamK
    dsimp only
    rw [e]
  | some p =>
    unfold lamK
    rw [e]
    refine okx_res ?_
    rw [e]
theorem ok_lamM : Okx E (lamM pre is q mE mT n) s Q ↔ Okx E pre s (fun as s1 => lamK E is q mE mT n as s1 Q) := by
  unfold lamM
  rw [ok_bnd]
  exact ⟨fun h => h.imp fun _ _ => lamEq.mp, fun h => h.imp fun _ _ => lamEq.mpr⟩
theorem lamK_ok (hc : capS is s1 = some (ds, s2)) (h : ∀ f c us, mT ⟨q, f, c, us, ds, mE⟩ n (as ++ [Clo.tok ⟨q, f, c, us, ds, mE⟩]) s2.sto = .ok d st) : lamK E is q mE mT n as s1 Q ↔ Q d { s2 with sto := st } := by
  unfold lamK
  rw [hc]
  dsimp only
  rw [anyR_eq h]
  exact Iff.rfl
theorem ok_callF0 (h : env[i]? = some (some (.val φ.tok))) : Okx E (callF φ i n argN) ⟨env, st⟩ Q ↔ OkFx (fun e st => E e ⟨env, st⟩) (φ.m n φ.ds st) (fun d st => Q d ⟨env, st⟩) := by
  have e : callF φ i n argN ⟨env, st⟩ = resM ⟨env, st⟩ (φ.m n φ.ds st) := by
    unfold callF
    rw [if_pos h]
    unfold bnd argN
    show resM _ (φ.m n (φ.ds ++ []) st) = _
    rw [List.append_nil]
  unfold Okx
  rw [e]
  cases φ.m n φ.ds st <;> exact Iff.rfl
end
end Dn
/-! A1: the pen of the first laws. -/
namespace Lw
open PySem Dn
open L2 hiding bin
abbrev pen (cells : List Int) (b l : Int) : List (L2.Key × PV) := penD "cells" "place" "rest" cells b l
theorem K3 : Keys3 "cells" "place" "rest" := ⟨by decide +kernel, by decide +kernel, by decide +kernel⟩
theorem pc {cells b l} : valP (penD "cells" "place" "rest" cells b l) (.inr "cells") = some (.lst (cells.map .int)) := pen_c
theorem pb {cells b l} : valP (penD "cells" "place" "rest" cells b l) (.inr "place") = some (.int b) := pen_b K3
theorem pl {cells b l} : valP (penD "cells" "place" "rest" cells b l) (.inr "rest") = some (.int l) := pen_l K3
theorem ppb {cells b l v} : putP (penD "cells" "place" "rest" cells b l) (.inr "place") (.int v) = penD "cells" "place" "rest" cells v l := pen_put_b K3
theorem ppl {cells b l v} : putP (penD "cells" "place" "rest" cells b l) (.inr "rest") (.int v) = penD "cells" "place" "rest" cells b v := pen_put_l K3
theorem plen {kc kb kl : Str} {cells b l} : ((penD kc kb kl cells b l).length < sizeLine) = True := by rw [sizeLine_eq]; simp [penD]
local macro_rules | `(tactic| walk_at "st") => `(tactic| try simp only [ok_ret, ok_bnd, ok_bin, ok_var, varK_val, varK_own, pv_val, pv_own, ok_asB, asBK_bl, ok_andT, ok_orT, ok_notT, ok_iteT, ok_andV, ok_notV, blK_bl,
  ok_argN, ok_argC, ok_fits, ok_tupM, ok_lstM, ok_parN, ok_parS, intK_int, ok_slM, lstK_lst, ok_joinM, strK_str, ok_itemsM, ok_rngM, ok_seqM, seqK_nx, seqK_rt, seqK_ro, seqK_bk, seqK_ct, ok_ifM, ok_retM, ok_slO, ok_dropM, ok_skipM, ok_asgM, ok_par2VO, ok_par3,
  ok_callM, rtK_rt, rtK_ro, rtK_nx, ok_loopM, ok_lcM, ok_dispM, ok_prsN, ok_prsC, ok_hget0, getK_some, ok_hputM, putK0, pc, pb, pl, ppb, ppl, plen, ok_add, ok_addS, ok_addT, ok_addL, ok_sub, ok_mul, ok_ixL, ok_ixT, ok_unp, unpK_tup, ok_set0, ok_setC, ok_app, flK_nx, flK_ct, flK_bk, flK_rt, flK_ro, sl_L, sl_T, sl_S, it_L, it_T, wip, ok_div, ok_mod, ok_pow, ok_rep, ok_ord, ok_fInt, ok_fAbs, ok_fNeg, ok_lenL, ok_lenT, ok_lenS, ok_fListL, ok_fListT, ok_fTupleL, ok_fTupleT, ok_eqI, ok_eqB, ok_eqS,
  okF_ok, okF_exc, ok_runM, ok_appA, ok_len1, ok_chain, isNonB_non, isNonB_int, isNonB_bl, isNonB_str, isNonB_tup, isNonB_lst, isNonB_obj, ok_isN, ok_max, ok_min, isi_int_int, isi_int_bl, isi_int_non, isi_int_str, isi_int_tup, isi_int_lst, isi_bool_int, isi_bool_bl, isi_str_str, isi_str_int, isi_str_bl, isi_str_non, isi_str_tup, isi_str_lst, isi_tuple_tup, isi_tuple_int, isi_tuple_bl, isi_tuple_non, isi_tuple_str, isi_tuple_lst,
  ok_conM, ok_fputM, fputK_new, conV_new, ok_makeM, ok_methM, ok_insM, ok_raise,
  List.map_cons, List.map_nil, List.replicate_succ, List.replicate_zero, List.cons_append, List.nil_append, List.append_nil, List.getElem?_cons_zero, List.getElem?_cons_succ, List.set_cons_zero, List.set_cons_succ, Nat.reduceSub, decide_eq_true_eq, if_true, if_false, Bool.false_eq_true, Bool.not_true, Bool.not_false, beq_self_eq_true, Bool.true_eq_false, bne_self_eq_false, Bool.bne_true, Bool.bne_false, Nat.zero_add, Nat.reduceAdd, true_and, and_true, reduceCtorEq, List.length_cons, List.length_nil])
local macro_rules | `(tactic| walk_at "sv") => `(tactic| repeat' first | exact True.intro | with_reducible rfl | omega | exact cdiv100 (by omega) (by omega) | exact cmul100 (by omega) (by omega) | (show L2.CPow _ _; decide +kernel) | apply And.intro)
theorem sp_pen {n : Nat} {ns : List Int} {st : List MO} {Q : PV → List MO → Prop} (h : Q (.hnd st.length) (st ++ [.dic (pen (cutI ns none (some 63)) 0 0)])) : OkF (m_law_pen n [.scr ns] st) Q := by
  unfold m_law_pen
  refine okF_fnF rfl ?_
  unfold b_law_pen
  walk_at "st"
  refine ⟨_, rfl, ?_⟩
  walk_at "st"
  rw [pen_new K3]
  exact ⟨by decide, h⟩
/-- a pen at the bottom of the store, used at most B times; g stands above it -/
def Pn (cells : List Int) (B : Int) (g st : List MO) : Prop := ∃ b l, st = .dic (pen cells b l) :: g ∧ 0 ≤ b ∧ b ≤ B ∧ 0 ≤ l
theorem Pn.mono {cells : List Int} {B B' : Int} {g st : List MO} (h : Pn cells B g st) (hb : B ≤ B') : Pn cells B' g st := by
  obtain ⟨b, l, e, h1, h2, h3⟩ := h
  exact ⟨b, l, e, h1, Int.le_trans h2 hb, h3⟩
theorem Pn.up {cells : List Int} {B : Int} {g st more : List MO} (h : Pn cells B g st) : Pn cells B (g ++ more) (st ++ more) := by
  obtain ⟨b, l, rfl, h1, h2, h3⟩ := h
  exact ⟨b, l, rfl, h1, h2, h3⟩
theorem atI_cell {cells : List Int} {k : Int} (h0 : 0 ≤ k) (h1 : k < cells.length) : ∃ c : Int, L2.atI (cells.map PV.int) k = some (.int c) := by
  obtain ⟨v, e, hm⟩ := atI_in (ds := cells.map PV.int) h0 (by simpa using h1)
  obtain ⟨c, _, rfl⟩ := List.mem_map.mp hm
  exact ⟨c, e⟩
abbrev PR : List PV := [PV.int 2147483647, PV.int 2147483629, PV.int 2147483587, PV.int 2147483579, PV.int 2147483563, PV.int 2147483549, PV.int 2147483543]
theorem primes7 {b : Int} : ∃ p : Int, L2.atI PR (b % 7) = some (.int p) ∧ 2147483543 ≤ p ∧ p ≤ 2147483647 := by
  have h0 : 0 ≤ b % 7 := Int.emod_nonneg _ (by decide)
  have h1 : b % 7 < 7 := Int.emod_lt_of_pos _ (by decide)
  generalize b % 7 = r at h0 h1
  have : r = 0 ∨ r = 1 ∨ r = 2 ∨ r = 3 ∨ r = 4 ∨ r = 5 ∨ r = 6 := by omega
  rcases this with rfl | rfl | rfl | rfl | rfl | rfl | rfl <;> exact ⟨_, rfl, by decide, by decide⟩
theorem hprime {b : Int} {Z : PV → Prop} (h : ∀ p : Int, 2147483543 ≤ p → p ≤ 2147483647 → Z (.int p)) : ∃ v, L2.atI PR (b % 7) = some v ∧ Z v := by
  obtain ⟨p, e, h1, h2⟩ := primes7 (b := b)
  exact ⟨_, e, h p h1 h2⟩
theorem cm1 {x p : Int} (h1 : 2147483543 ≤ p) (h2 : p ≤ 2147483647) : L2.CMulW (x % p) (x % p + 16811) := by
  have := Int.emod_nonneg x (show p ≠ 0 by omega)
  have := Int.emod_lt_of_pos x (show 0 < p by omega)
  exact cmul100 (by omega) (by omega)
theorem cpow18 : L2.CPow 10 18 := by decide +kernel
set_option maxHeartbeats 4000000 in
theorem sp_draw {n : Nat} {k B : Int} {cells : List Int} {g st : List MO} {Q : PV → List MO → Prop} (hp : Pn cells B g st) (hk : 0 < k ∧ k ≤ 1000000) (hB : B < 1000000000)
    (h : ∀ r st', 0 ≤ r → r < k → Pn cells (B + 1) g st' → Q (.int r) st') : OkF (m_law_draw n [.hnd 0, .int k] st) Q := by
  obtain ⟨b, l, rfl, hb, hb2, hl⟩ := hp
  have hz : sizeLine = 16777216 := sizeLine_eq
  have hr : ∀ x : Int, 0 ≤ x % k ∧ x % k < k := fun x => ⟨Int.emod_nonneg _ (by omega), Int.emod_lt_of_pos _ hk.1⟩
  have h := fun (x b' l' : Int) (h1 : 0 ≤ b') (h2 : b' ≤ B + 1) (h3 : 0 ≤ l') => h (x % k) (.dic (pen cells b' l') :: g) (hr x).1 (hr x).2 ⟨b', l', rfl, h1, h2, h3⟩
  unfold m_law_draw
  refine okF_fnF rfl ?_
  unfold b_law_draw
  walk_at "st"
  split
  · rename_i hl0
    walk_at "sv"
    exact h _ _ _ (by omega) (by omega) (Int.ediv_nonneg (by omega) (by omega))
  · walk_at "sv"
    rw [ok_eqNil (toDs_ints _) (shaped_ints _)]
    walk_at "st"
    split
    case' isTrue =>
      rename_i hne
      have hlen : 0 < (cells.map PV.int).length := by
        cases cells with
        | nil => simp at hne
        | cons => simp
      obtain ⟨c, hc⟩ := atI_cell (cells := cells) (k := b % ((cells.map PV.int).length : Int)) (Int.emod_nonneg _ (by omega)) (by rw [← List.length_map (f := PV.int)]; exact Int.emod_lt_of_pos _ (by omega))
      refine ⟨by omega, _, hc, ?_⟩
    all_goals
      try walk_at "st"
      have hm : ∀ x p : Int, 2147483543 ≤ p → p ≤ 2147483647 → -1267650600228229401496703205376 ≤ x % p ∧ x % p ≤ 1267650600228229401496703205376 := fun x p h1 h2 => by
        have := Int.emod_nonneg x (show p ≠ 0 by omega)
        have := Int.emod_lt_of_pos x (show 0 < p by omega)
        omega
      repeat' first
        | exact True.intro
        | exact cdiv100 (by omega) (by omega)
        | exact cmul100 (by first | exact hm _ _ (by assumption) (by assumption) | omega) (by first | exact hm _ _ (by assumption) (by assumption) | omega)
        | exact cm1 (by assumption) (by assumption)
        | exact cpow18
        | apply And.intro
        | split
        | (refine hprime fun p hp1 hp2 => ?_; walk_at "st")
        | (refine h _ _ _ ?_ ?_ ?_)
        | exact Int.ediv_nonneg (by omega) (by omega)
        | omega
        | decide
set_option maxHeartbeats 4000000 in
theorem sp_pickL {n : Nat} {B : Int} {cells : List Int} {g st : List MO} {xs : List PV} {Q : PV → List MO → Prop} (hp : Pn cells B g st) (hx : 0 < xs.length ∧ xs.length ≤ 1000000) (hB : B < 1000000000)
    (h : ∀ v st', v ∈ xs → Pn cells (B + 1) g st' → Q v st') : OkF (m_law_pick n [.hnd 0, .lst xs] st) Q := by
  unfold m_law_pick
  refine okF_fnF rfl ?_
  unfold b_law_pick
  walk_at "st"
  refine sp_draw hp (by omega) hB fun r st' h0 h1 hp' => ?_
  walk_at "st"
  obtain ⟨v, e, hm⟩ := atI_in h0 h1
  exact ⟨v, e, h v st' hm hp'⟩
set_option maxHeartbeats 4000000 in
theorem sp_pickS {n : Nat} {B : Int} {cells : List Int} {g st : List MO} {x : Str} {Q : PV → List MO → Prop} (hp : Pn cells B g st) (hx : 0 < x.length ∧ x.length ≤ 1000000) (hB : B < 1000000000)
    (h : ∀ c st', c ∈ x.cps.toList → Pn cells (B + 1) g st' → Q (.str ⟨#[c]⟩) st') : OkF (m_law_pick n [.hnd 0, .str x] st) Q := by
  have hs : x.length ≤ sizeLine := by rw [sizeLine_eq]; omega
  unfold m_law_pick
  refine okF_fnF rfl ?_
  unfold b_law_pick
  walk_at "st"
  refine ⟨hs, ?_⟩
  refine sp_draw hp (by omega) hB fun r st' h0 h1 hp' => ?_
  rw [ok_ixS hs]
  have hl : x.cps.toList.length = x.length := by simp [Str.length]
  obtain ⟨c, e, hm⟩ := atI_in (ds := x.cps.toList) h0 (by rw [hl]; exact h1)
  exact ⟨c, e, h c st' hm hp'⟩
set_option maxHeartbeats 4000000 in
theorem sp_digits {n : Nat} {B : Int} {cells : List Int} {g st : List MO} {k : Int} {Q : PV → List MO → Prop} (hp : Pn cells B g st) (hk : 0 ≤ k ∧ k ≤ 30) (hB : B < 100000000)
    (h : ∀ (r : Int) st', 0 ≤ r → r < 10 ^ k.toNat → Pn cells (B + 30) g st' → Q (.int r) st') : OkF (m_law_digits n [.hnd 0, .int k] st) Q := by
  have hz : sizeLine = 16777216 := sizeLine_eq
  unfold m_law_digits
  refine okF_fnF rfl ?_
  unfold b_law_digits
  walk_at "st"
  refine ⟨_, rngP_nat (by omega) (by omega), ?_⟩
  refine ok_for (fun j s => ∃ (r : Int) (e3 : Option SV) (st' : List MO), s = ⟨[some (SV.val (PV.hnd 0)), some (SV.val (PV.int k)), some (SV.val (PV.int r)), e3], st'⟩ ∧ 0 ≤ r ∧ r < 10 ^ j ∧ Pn cells (B + j) g st') ⟨0, none, st, rfl, by decide, by decide, hp.mono (by omega)⟩ ?_ ?_
  · rintro j x s hx ⟨r, e3, st', rfl, h0, h1, hp'⟩
    obtain ⟨rfl, hj⟩ := rng_get hx
    have hpow : (10 : Int) ^ j ≤ 1000000000000000000000000000000 := by
      have h30 : (10 : Int) ^ 30 = 1000000000000000000000000000000 := by decide
      rw [← h30]
      exact_mod_cast Nat.pow_le_pow_right (n := 10) (by decide) (show j ≤ 30 by omega)
    generalize hq : (10 : Int) ^ j = q at h1 hpow
    walk_at "st"
    refine ⟨cmul100 (by omega) (by omega), ?_⟩
    refine sp_draw hp' (by omega) (by omega) fun d st2 hd0 hd1 hp2 => ?_
    walk_at "st"
    refine ⟨_, _, _, rfl, by omega, ?_, hp2.mono (by simp; omega)⟩
    rw [Int.pow_succ, hq]
    omega
  · rintro s ⟨r, e3, st', rfl, h0, h1, hp'⟩
    rw [rng_len] at h1 hp'
    walk_at "st"
    exact h r st' h0 h1 (hp'.mono (by omega))
end Lw
/-! A2: names. -/
namespace Lw
open PySem Dn
open L2 hiding bin
local macro_rules | `(tactic| walk_at "st") => `(tactic| try simp only [ok_ret, ok_bnd, ok_bin, ok_var, varK_val, varK_own, pv_val, pv_own, ok_asB, asBK_bl, ok_andT, ok_orT, ok_notT, ok_iteT, ok_andV, ok_notV, blK_bl,
  ok_argN, ok_argC, ok_fits, ok_tupM, ok_lstM, ok_parN, ok_parS, intK_int, ok_slM, lstK_lst, ok_joinM, strK_str, ok_itemsM, ok_rngM, ok_seqM, seqK_nx, seqK_rt, seqK_ro, seqK_bk, seqK_ct, ok_ifM, ok_retM, ok_slO, ok_dropM, ok_skipM, ok_asgM, ok_par2VO, ok_par3,
  ok_callM, rtK_rt, rtK_ro, rtK_nx, ok_loopM, ok_lcM, ok_dispM, ok_prsN, ok_prsC, ok_hget0, getK_some, ok_hputM, putK0, pc, pb, pl, ppb, ppl, plen, ok_add, ok_addS, ok_addT, ok_addL, ok_sub, ok_mul, ok_ixL, ok_ixT, ok_unp, unpK_tup, ok_set0, ok_setC, ok_app, flK_nx, flK_ct, flK_bk, flK_rt, flK_ro, sl_L, sl_T, sl_S, it_L, it_T, wip, ok_div, ok_mod, ok_pow, ok_rep, ok_ord, ok_fInt, ok_fAbs, ok_fNeg, ok_lenL, ok_lenT, ok_lenS, ok_fListL, ok_fListT, ok_fTupleL, ok_fTupleT, ok_eqI, ok_eqB, ok_eqS,
  okF_ok, okF_exc, ok_runM, ok_appA, ok_len1, ok_chain, isNonB_non, isNonB_int, isNonB_bl, isNonB_str, isNonB_tup, isNonB_lst, isNonB_obj, ok_isN, ok_max, ok_min, isi_int_int, isi_int_bl, isi_int_non, isi_int_str, isi_int_tup, isi_int_lst, isi_bool_int, isi_bool_bl, isi_str_str, isi_str_int, isi_str_bl, isi_str_non, isi_str_tup, isi_str_lst, isi_tuple_tup, isi_tuple_int, isi_tuple_bl, isi_tuple_non, isi_tuple_str, isi_tuple_lst,
  ok_conM, ok_fputM, fputK_new, conV_new, ok_makeM, ok_methM, ok_insM, ok_raise,
  List.map_cons, List.map_nil, List.replicate_succ, List.replicate_zero, List.cons_append, List.nil_append, List.append_nil, List.getElem?_cons_zero, List.getElem?_cons_succ, List.set_cons_zero, List.set_cons_succ, Nat.reduceSub, decide_eq_true_eq, if_true, if_false, Bool.false_eq_true, Bool.not_true, Bool.not_false, beq_self_eq_true, Bool.true_eq_false, bne_self_eq_false, Bool.bne_true, Bool.bne_false, Nat.zero_add, Nat.reduceAdd, true_and, and_true, reduceCtorEq, List.length_cons, List.length_nil])
abbrev AZ : Str := "abcdefghijklmnopqrstuvwxyz"
def lowC (c : Nat) : Prop := c ∈ AZ.cps.toList
instance (c : Nat) : Decidable (lowC c) := inferInstanceAs (Decidable (c ∈ AZ.cps.toList))
/-- a name: 1 to 8 letters -/
structure Nm (x : Str) : Prop where
  pos : 0 < x.length
  le : x.length ≤ 8
  low : ∀ c ∈ x.cps.toList, lowC c
theorem low_ok {c : Nat} (h : lowC c) : c < 0x110000 := by
  have : ∀ d ∈ AZ.cps.toList, d < 0x110000 := by decide +kernel
  exact this c h
theorem Nm.sOk {x : Str} (h : Nm x) : sOk 8 x := ⟨strOk_iff.mpr fun c hc => low_ok (h.low c hc), h.le⟩
/-- texts of small letters -/
structure Lo (w : Nat) (x : Str) : Prop where
  le : x.length ≤ w
  low : ∀ c ∈ x.cps.toList, lowC c
theorem Lo.cut {w : Nat} {x : Str} {lo hi : Option Int} (h : Lo w x) : Lo w (L2.cutS x lo hi) := by
  refine ⟨?_, fun c hc => ?_⟩
  · refine Nat.le_trans ?_ h.le
    unfold L2.cutS
    show ((List.take _ _).toArray).size ≤ x.cps.size
    rw [List.size_toArray, List.length_take, List.length_drop, Array.length_toList]
    omega
  · have : c ∈ x.cps.toList := by
      unfold L2.cutS at hc
      exact List.mem_of_mem_drop (List.mem_of_mem_take (by simpa using hc))
    exact h.low c this
theorem app_cps {x y : Str} : (x ++ y).cps.toList = x.cps.toList ++ y.cps.toList := by
  show (x.cps ++ y.cps).toList = _
  rw [Array.toList_append]
theorem app_len {x y : Str} : (x ++ y).length = x.length + y.length := by
  show (x.cps ++ y.cps).size = _
  rw [Array.size_append]
  rfl
theorem Lo.app {w v : Nat} {x y : Str} (h : Lo w x) (h' : Lo v y) : Lo (w + v) (x ++ y) := by
  refine ⟨by rw [app_len]; exact Nat.add_le_add h.le h'.le, fun c hc => ?_⟩
  rw [app_cps] at hc
  rcases List.mem_append.mp hc with hc | hc
  · exact h.low c hc
  · exact h'.low c hc
theorem Lo.one {c : Nat} (h : lowC c) : Lo 1 ⟨#[c]⟩ := ⟨Nat.le_refl _, fun d hd => by
  have : d = c := by simpa using hd
  rw [this]; exact h⟩
theorem cut_to_len {x : Str} {k : Nat} (h : k ≤ x.length) : (L2.cutS x none (some (k : Int))).cps.toList = x.cps.toList.take k := by
  unfold L2.cutS
  rw [HT.sIx_none, HT.sIx_nat]
  simp [Str.length] at h ⊢
theorem cut_from_len {x : Str} {k : Nat} (h : k ≤ x.length) : (L2.cutS x (some (k : Int)) none).cps.toList = x.cps.toList.drop k := by
  unfold L2.cutS
  rw [HT.sIx_none, HT.sIx_nat]
  simp [Str.length] at h ⊢
  rw [Nat.min_eq_left h, List.take_of_length_le]
  rw [List.length_drop, Array.length_toList]
  exact Nat.le_refl _
theorem len_cps {x : Str} : x.cps.toList.length = x.length := by simp [Str.length]
/-- the letters' list is without twice -/
theorem az_nodup : AZ.cps.toList.Nodup := by decide +kernel
theorem lowJoin : ∀ {zs : List Str}, (∀ z ∈ zs, Lo 1 z ∧ z.length = 1) → ∀ c ∈ (Txt.join (Str.ofString "") zs).cps.toList, lowC c := by
  intro zs h
  have key : ∀ (ps : List Str) (acc : Array Nat), (∀ z ∈ ps, Lo 1 z ∧ z.length = 1) → (∀ c ∈ acc.toList, lowC c) → ∀ c ∈ (ps.foldl (fun acc p => acc ++ (Str.ofString "").cps ++ p.cps) acc).toList, lowC c := by
    intro ps
    induction ps with
    | nil => intro acc _ h c hc; exact h c hc
    | cons p ps ih =>
      intro acc hz ha c hc
      rw [List.foldl_cons] at hc
      refine ih _ (fun z hm => hz z (List.mem_cons_of_mem _ hm)) (fun c hc => ?_) c hc
      rw [Array.toList_append, Array.toList_append] at hc
      rcases List.mem_append.mp hc with hc | hc
      · rcases List.mem_append.mp hc with hc | hc
        · exact ha c hc
        · exact absurd hc (by rw [show (Str.ofString "").cps.toList = [] from rfl]; exact List.not_mem_nil)
      · exact (hz p List.mem_cons_self).1.low c hc
  cases zs with
  | nil => intro c hc; exact absurd hc (by rw [show (Txt.join (Str.ofString "") []).cps.toList = [] from rfl]; exact List.not_mem_nil)
  | cons z r => exact key r z.cps (fun y hy => h y (List.mem_cons_of_mem _ hy)) (fun c hc => (h z List.mem_cons_self).1.low c hc)
theorem g_odd {fi g : Int} {i j : Nat} (hg : g = 1 ∨ g = 3 ∨ g = 5 ∨ g = 7 ∨ g = 9 ∨ g = 11 ∨ g = 15 ∨ g = 17 ∨ g = 19 ∨ g = 21 ∨ g = 23 ∨ g = 25) (hi : i < 26) (hj : j < 26) (h : (fi + g * (i : Int)) % 26 = (fi + g * (j : Int)) % 26) : i = j := by
  rcases hg with rfl | rfl | rfl | rfl | rfl | rfl | rfl | rfl | rfl | rfl | rfl | rfl <;> omega
theorem nodup_inj {α : Type} {l : List α} (h : l.Nodup) {i j : Nat} (hi : i < l.length) (hj : j < l.length) (e : l[i] = l[j]) : i = j := by
  have h := List.pairwise_iff_getElem.mp h
  rcases Nat.lt_trichotomy i j with q | q | q
  · exact absurd e (h i j hi hj q)
  · exact q
  · exact absurd e.symm (h j i hj hi q)
/-- what a name is like: before, a letter, behind -/
def nmAt (stem : Str) (at' : Nat) (c : Nat) (x : Str) : Prop := ∃ tl : List Nat, x.cps.toList = stem.cps.toList.take at' ++ c :: tl
theorem nmAt_ne {stem : Str} {k : Nat} {c d : Nat} {x y : Str} (hk : k ≤ stem.length) (hx : nmAt stem k c x) (hy : nmAt stem k d y) (h : c ≠ d) : x ≠ y := by
  rintro rfl
  obtain ⟨t, e⟩ := hx
  obtain ⟨u, e2⟩ := hy
  rw [e] at e2
  have := List.append_cancel_left e2
  exact h (List.cons.inj this).1
set_option maxHeartbeats 4000000 in
theorem sp_names {n : Nat} {B : Int} {k : Int} {cells : List Int} {g st : List MO} {Q : PV → List MO → Prop} (hp : Pn cells B g st) (hB : B < 100000000) (hk : 0 ≤ k ∧ k ≤ 26)
    (h : ∀ (ss : List Str) st', ss.length = k.toNat → (∀ x ∈ ss, Nm x) → ss.Nodup → Pn cells (B + 20) g st' → Q (.lst (ss.map .str)) st') : OkF (m_law_names n [.hnd 0, .int k] st) Q := by
  have hz : sizeLine = 16777216 := sizeLine_eq
  unfold m_law_names
  refine okF_fnF rfl ?_
  unfold b_law_names
  walk_at "st"
  refine sp_draw hp (by omega) (by omega) fun r st1 h0 h1 hp1 => ?_
  refine ⟨_, rngP_nat (by omega) (by omega), ?_⟩
  refine ok_lcEach (fun j st => Pn cells (B + 1 + (j : Int)) g st) (fun y => ∃ x : Str, y = .str x ∧ (Lo 1 x ∧ x.length = 1)) rfl (by simp) (by rw [rng_len]; omega) (hp1.mono (by omega)) (fun _ => rfl) ?_ ?_
  · intro j x st hx hp
    obtain ⟨rfl, hj⟩ := rng_get hx
    walk_at "st"
    refine sp_pickS hp (by decide) (by omega) fun c st' hc hp' => ?_
    exact ⟨⟨_, rfl, Lo.one hc, rfl⟩, hp'.mono (by simp; omega)⟩
  intro ys st3 hl hy hp3
  obtain ⟨zs, rfl, hzs⟩ := ex_map hy
  rw [rng_len, List.length_map] at hl
  rw [rng_len] at hp3
  have hj : (zs.map (·.length)).sum + zs.length * (Str.ofString "").length ≤ 16777216 := by
    have h1 := sum_le (w := 1) (zs := zs) fun z hz => (hzs z hz).1.le
    have h2 : zs.length * (Str.ofString "").length = 0 := Nat.mul_zero _
    omega
  refine ⟨_, joinP_map hj, ?_⟩
  have hlen : (Txt.join (Str.ofString "") zs).length = zs.length := join_one zs fun z hz => (hzs z hz).2
  have hstem : Lo 7 (Txt.join (Str.ofString "") zs) := ⟨by omega, lowJoin hzs⟩
  generalize Txt.join (Str.ofString "") zs = stem at hstem hlen
  walk_at "st"
  refine ⟨by omega, ?_⟩
  refine sp_draw hp3 (by omega) (by omega) fun at' st4 ha0 ha1 hp4 => ?_
  refine sp_draw hp4 (by omega) (by omega) fun fi st5 hf0 hf1 hp5 => ?_
  refine sp_draw hp5 (by omega) (by omega) fun cu st6 hc0 hc1 hp6 => ?_
  walk_at "st"
  refine ⟨by omega, ?_⟩
  refine sp_pickL hp6 (by decide) (by omega) fun v st7 hv hp7 => ?_
  obtain ⟨gg, rfl, hg⟩ : ∃ g : Int, v = .int g ∧ (g = 1 ∨ g = 3 ∨ g = 5 ∨ g = 7 ∨ g = 9 ∨ g = 11 ∨ g = 15 ∨ g = 17 ∨ g = 19 ∨ g = 21 ∨ g = 23 ∨ g = 25) := by
    simp only [List.mem_cons, List.not_mem_nil, or_false] at hv
    rcases hv with rfl | rfl | rfl | rfl | rfl | rfl | rfl | rfl | rfl | rfl | rfl | rfl <;> exact ⟨_, rfl, by decide⟩
  walk_at "st"
  refine ⟨by omega, _, rngP_nat (by omega) (by omega), ?_⟩
  obtain ⟨a, rfl⟩ := Int.eq_ofNat_of_zero_le ha0
  have hal : a ≤ stem.length := by omega
  have hst := hstem.le
  refine ok_for (fun j s => ∃ e9 e10 e11 fs, s = ⟨[some (SV.val (PV.hnd 0)), some (SV.val (PV.int k)), some (SV.val (PV.str AZ)), some (SV.val (PV.str stem)), some (SV.val (PV.int a)), some (SV.val (PV.int fi)), some (SV.val (PV.int cu)), some (SV.val (PV.int gg)), some (SV.own (fs.map PV.str)), e9, e10, e11, none], st7⟩ ∧ fs.length = j ∧ (∀ x ∈ fs, Nm x ∧ ∃ t : Nat, t < j ∧ ∃ c, L2.atI AZ.cps.toList ((fi + gg * (t : Int)) % 26) = some c ∧ nmAt stem a c x) ∧ fs.Nodup) ⟨none, none, none, [], rfl, rfl, (fun x hx => by cases hx), List.nodup_nil⟩ ?_ ?_
  · rintro j x s hx ⟨e9, e10, e11, fs, rfl, hfl, hfs, hnd⟩
    obtain ⟨rfl, hj⟩ := rng_get hx
    walk_at "st"
    have hs1 : Lo 7 (L2.cutS stem (some (a : Int)) none) := hstem.cut
    have hs2 : Lo 7 (L2.cutS stem none (some (a : Int))) := hstem.cut
    have hs3 : Lo 7 (L2.cutS (L2.cutS stem (some (a : Int)) none) none (some ((j : Int) % 3))) := hs1.cut
    have e1 := cut_from_len hal
    have e2 := cut_to_len hal
    have l1 : (L2.cutS stem (some (a : Int)) none).length = stem.length - a := by rw [← len_cps, e1, List.length_drop, len_cps]
    have l2 : (L2.cutS stem none (some (a : Int))).length = a := by rw [← len_cps, e2, List.length_take, len_cps]; omega
    have l3 : (L2.cutS (L2.cutS stem (some (a : Int)) none) none (some ((j : Int) % 3))).length ≤ stem.length - a := by rw [← l1]; exact (Lo.cut (w := (L2.cutS stem (some (a : Int)) none).length) ⟨Nat.le_refl _, hs1.low⟩).le
    have hlt : AZ.length ≤ sizeLine := by rw [hz]; decide
    obtain ⟨c, hc, hcm⟩ := atI_in (ds := AZ.cps.toList) (k := (fi + gg * (j : Int)) % 26) (Int.emod_nonneg _ (by decide)) (Int.emod_lt_of_pos _ (by decide))
    have hc1 : Lo 1 ⟨#[c]⟩ := Lo.one hcm
    have key : ∀ (tl : Str), Lo 7 tl → tl.length ≤ stem.length - a → L2.CMulW gg j ∧ True → (0 < (26 : Int)) → ((L2.cutS stem none (some (a : Int))).length + (⟨#[c]⟩ : Str).length ≤ sizeLine ∧ (L2.cutS stem none (some (a : Int)) ++ ⟨#[c]⟩).length + tl.length ≤ sizeLine) ∧ (Nm (L2.cutS stem none (some (a : Int)) ++ ⟨#[c]⟩ ++ tl) ∧ nmAt stem a c (L2.cutS stem none (some (a : Int)) ++ ⟨#[c]⟩ ++ tl)) := fun tl htl hll _ _ => by
      have l0 : (⟨#[c]⟩ : Str).length = 1 := rfl
      refine ⟨⟨by omega, by rw [app_len]; omega⟩, ⟨by rw [app_len, app_len]; omega, by rw [app_len, app_len]; omega, ((hs2.app hc1).app htl).low⟩, tl.cps.toList, ?_⟩
      rw [app_cps, app_cps, e2, List.append_assoc]
      rfl
    have step : ∀ (tl : Str) (e10 : Option SV), Lo 7 tl → tl.length ≤ stem.length - a → ∃ (e9 e10' e11 : Option SV) (fs' : List Str), (⟨[some (SV.val (PV.hnd 0)), some (SV.val (PV.int k)), some (SV.val (PV.str AZ)), some (SV.val (PV.str stem)), some (SV.val (PV.int a)), some (SV.val (PV.int fi)), some (SV.val (PV.int cu)), some (SV.val (PV.int gg)), some (SV.own (fs.map PV.str ++ [PV.str (L2.cutS stem none (some (a : Int)) ++ ⟨#[c]⟩ ++ tl)])), some (SV.val (PV.int j)), e10, some (SV.val (PV.str ⟨#[c]⟩)), none], st7⟩ : S) = ⟨[some (SV.val (PV.hnd 0)), some (SV.val (PV.int k)), some (SV.val (PV.str AZ)), some (SV.val (PV.str stem)), some (SV.val (PV.int a)), some (SV.val (PV.int fi)), some (SV.val (PV.int cu)), some (SV.val (PV.int gg)), some (SV.own (fs'.map PV.str)), e9, e10', e11, none], st7⟩ ∧ fs'.length = j + 1 ∧ (∀ x ∈ fs', Nm x ∧ ∃ t : Nat, t < j + 1 ∧ ∃ c, L2.atI AZ.cps.toList ((fi + gg * (t : Int)) % 26) = some c ∧ nmAt stem a c x) ∧ fs'.Nodup := fun tl e10 htl hll => by
      obtain ⟨_, hnm, hat⟩ := key tl htl hll ⟨cmul100 (by omega) (by omega), trivial⟩ (by decide)
      refine ⟨_, _, _, fs ++ [_], by rw [List.map_append]; rfl, by rw [List.length_append, hfl]; rfl, fun x hx => ?_, ?_⟩
      · rcases List.mem_append.mp hx with hx | hx
        · obtain ⟨q1, t, ht, q2⟩ := hfs x hx
          exact ⟨q1, t, by omega, q2⟩
        · rw [List.mem_singleton.mp hx]
          exact ⟨hnm, j, by omega, c, hc, hat⟩
      · refine List.nodup_append.mpr ⟨hnd, List.nodup_cons.mpr ⟨List.not_mem_nil, List.nodup_nil⟩, fun x hx y hy => ?_⟩
        rw [List.mem_singleton.mp hy]
        obtain ⟨q1, t, ht, d, hd, q2⟩ := hfs x hx
        refine nmAt_ne hal q2 hat fun e => ?_
        subst e
        have h26 : AZ.cps.toList.length = 26 := by decide +kernel
        have m0 : ∀ z : Int, 0 ≤ z % 26 ∧ z % 26 < 26 := fun z => ⟨Int.emod_nonneg _ (by decide), Int.emod_lt_of_pos _ (by decide)⟩
        obtain ⟨p1, hp1⟩ := Int.eq_ofNat_of_zero_le (m0 (fi + gg * (t : Int))).1
        obtain ⟨p2, hp2⟩ := Int.eq_ofNat_of_zero_le (m0 (fi + gg * (j : Int))).1
        have b1 : p1 < AZ.cps.toList.length := by have := (m0 (fi + gg * (t : Int))).2; omega
        have b2 : p2 < AZ.cps.toList.length := by have := (m0 (fi + gg * (j : Int))).2; omega
        have w1 := L2.atI_nat (List.getElem?_eq_getElem b1)
        have w2 := L2.atI_nat (List.getElem?_eq_getElem b2)
        rw [hp1, w1] at hd
        rw [hp2, w2] at hc
        have ee : AZ.cps.toList[p1] = AZ.cps.toList[p2] := by rw [Option.some.inj hd, Option.some.inj hc]
        have := nodup_inj az_nodup b1 b2 ee
        have := g_odd (fi := fi) hg (i := t) (j := j) (by omega) (by omega) (by rw [hp1, hp2]; omega)
        omega
    have hfl2 : (fs.map PV.str).length < sizeLine := by rw [List.length_map]; omega
    split
    · obtain ⟨⟨k1, k2⟩, _⟩ := key _ hs1 (by omega) ⟨cmul100 (by omega) (by omega), trivial⟩ (by decide)
      walk_at "st"
      refine ⟨by omega, ?_⟩
      walk_at "st"
      refine ⟨cmul100 (by omega) (by omega), by decide, ?_⟩
      rw [ok_ixS hlt]
      refine ⟨c, hc, ?_⟩
      walk_at "st"
      refine ⟨⟨_, rfl⟩, by omega, k1, k2, ?_⟩
      rw [ok_push rfl hfl2]
      walk_at "st"
      exact step _ _ hs1 (by omega)
    · obtain ⟨⟨k1, k2⟩, _⟩ := key _ hs3 (by omega) ⟨cmul100 (by omega) (by omega), trivial⟩ (by decide)
      walk_at "st"
      refine ⟨by omega, by decide, by omega, ?_⟩
      walk_at "st"
      refine ⟨cmul100 (by omega) (by omega), by decide, ?_⟩
      rw [ok_ixS hlt]
      refine ⟨c, hc, ?_⟩
      walk_at "st"
      refine ⟨⟨_, rfl⟩, by omega, k1, k2, ?_⟩
      rw [ok_push rfl hfl2]
      walk_at "st"
      exact step _ _ hs3 (by omega)
  · rintro s ⟨e9, e10, e11, fs, rfl, hfl, hfs, hnd⟩
    walk_at "st"
    refine h fs st7 ?_ (fun x hx => (hfs x hx).1) hnd (hp7.mono (by omega))
    rw [hfl, rng_len]
/-! ### names are told -/
theorem sign_in {c : Nat} {z : Str} {s : S} {E : PV → S → Prop} {Q : PV → S → Prop} : Okx E (lft (inP false (.str ⟨#[c]⟩) (.str z))) s Q ↔ Q (.bl (decide (c ∈ z.cps.toList))) s := by
  rw [ok_lft]
  unfold inP
  simp
def nameB (x : Str) : Bool := decide (0 < x.length) && (decide (x.length ≤ 8) && x.cps.toList.all fun c => decide (lowC c))
theorem nameB_iff {x : Str} : nameB x = true ↔ Nm x := by
  unfold nameB
  simp only [Bool.and_eq_true, decide_eq_true_eq, List.all_eq_true]
  exact ⟨fun h => ⟨h.1, h.2.1, h.2.2⟩, fun h => ⟨h.pos, h.le, h.low⟩⟩
theorem it_S {x : Str} {R : List PV → Prop} : (∃ z, itemsP (.str x) = some z ∧ R z) ↔ R (x.cps.toList.map fun c => .str ⟨#[c]⟩) := by simp [itemsP, signsP]
set_option maxHeartbeats 4000000 in
theorem eq_is_name {n : Nat} {x : Str} {st : List MO} (hx : x.length ≤ 16777216) : m_is_name n [.str x] st = .ok (.bl (nameB x)) st := by
  have hz : sizeLine = 16777216 := sizeLine_eq
  refine OkFx.eq ?_
  unfold m_is_name
  refine okF_fnF rfl ?_
  unfold b_is_name
  walk_at "st"
  refine ⟨by omega, ?_⟩
  walk_at "st"
  unfold nameB
  split
  · rename_i h1
    split
    · rename_i h2
      walk_at "st"
      rw [it_S]
      refine ok_lcT (fun c => PV.str ⟨#[c]⟩) (fun _ => true) (fun c => PV.bl (decide (lowC c))) rfl (by simp) (by rw [len_cps]; omega) (fun _ => rfl) (fun c hc => ?_) (fun c hc _ => ?_) ?_
      · walk_at "st"
      · walk_at "st"
        rw [sign_in]
        exact ⟨rfl, rfl⟩
      · rw [filter_true]
        refine ok_allM.mpr ?_
        have h1' : 0 < x.length := by omega
        have h2' : x.length ≤ 8 := by omega
        simp [h1', h2', rtK]
    · rename_i h2
      walk_at "st"
      have h2' : ¬ x.length ≤ 8 := by omega
      simp [h2', rtK]
  · rename_i h1
    walk_at "st"
    have h1' : ¬ 0 < x.length := by omega
    simp [h1', rtK]
end Lw
/-! A3: offices: their values, rows, how they are made. -/
namespace Lw
open PySem Dn
open L2 hiding bin
local macro_rules | `(tactic| walk_at "st") => `(tactic| try simp only [ok_ret, ok_bnd, ok_bin, ok_var, varK_val, varK_own, pv_val, pv_own, ok_asB, asBK_bl, ok_andT, ok_orT, ok_notT, ok_iteT, ok_andV, ok_notV, blK_bl,
  ok_argN, ok_argC, ok_fits, ok_tupM, ok_lstM, ok_parN, ok_parS, intK_int, ok_slM, lstK_lst, ok_joinM, strK_str, ok_itemsM, ok_rngM, ok_seqM, seqK_nx, seqK_rt, seqK_ro, seqK_bk, seqK_ct, ok_ifM, ok_retM, ok_slO, ok_dropM, ok_skipM, ok_asgM, ok_par2VO, ok_par3,
  ok_callM, rtK_rt, rtK_ro, rtK_nx, ok_loopM, ok_lcM, ok_dispM, ok_prsN, ok_prsC, ok_hget0, getK_some, ok_hputM, putK0, pc, pb, pl, ppb, ppl, plen, ok_add, ok_addS, ok_addT, ok_addL, ok_sub, ok_mul, ok_ixL, ok_ixT, ok_unp, unpK_tup, ok_set0, ok_setC, ok_app, flK_nx, flK_ct, flK_bk, flK_rt, flK_ro, sl_L, sl_T, sl_S, it_L, it_T, wip, ok_div, ok_mod, ok_pow, ok_rep, ok_ord, ok_fInt, ok_fAbs, ok_fNeg, ok_lenL, ok_lenT, ok_lenS, ok_fListL, ok_fListT, ok_fTupleL, ok_fTupleT, ok_eqI, ok_eqB, ok_eqS,
  okF_ok, okF_exc, ok_runM, ok_appA, ok_len1, ok_chain, isNonB_non, isNonB_int, isNonB_bl, isNonB_str, isNonB_tup, isNonB_lst, isNonB_obj, ok_isN, ok_max, ok_min, isi_int_int, isi_int_bl, isi_int_non, isi_int_str, isi_int_tup, isi_int_lst, isi_bool_int, isi_bool_bl, isi_str_str, isi_str_int, isi_str_bl, isi_str_non, isi_str_tup, isi_str_lst, isi_tuple_tup, isi_tuple_int, isi_tuple_bl, isi_tuple_non, isi_tuple_str, isi_tuple_lst,
  ok_conM, ok_fputM, fputK_new, conV_new, ok_makeM, ok_methM, ok_insM, ok_raise,
  List.map_cons, List.map_nil, List.replicate_succ, List.replicate_zero, List.cons_append, List.nil_append, List.append_nil, List.getElem?_cons_zero, List.getElem?_cons_succ, List.set_cons_zero, List.set_cons_succ, Nat.reduceSub, decide_eq_true_eq, if_true, if_false, Bool.false_eq_true, Bool.not_true, Bool.not_false, beq_self_eq_true, Bool.true_eq_false, bne_self_eq_false, Bool.bne_true, Bool.bne_false, Nat.zero_add, Nat.reduceAdd, true_and, and_true, reduceCtorEq, List.length_cons, List.length_nil])
local macro_rules | `(tactic| walk_at "sx") => `(tactic| try simp only [ok_ret, ok_bnd, ok_bin, ok_var, varK_val, varK_own, pv_val, pv_own, ok_asB, asBK_bl, ok_andT, ok_orT, ok_notT, ok_iteT, ok_andV, ok_notV, blK_bl,
  ok_argN, ok_argC, ok_fits, ok_tupM, ok_lstM, ok_parN, ok_parS, intK_int, ok_slM, lstK_lst, ok_joinM, strK_str, ok_itemsM, ok_rngM, seqK_nx, seqK_rt, seqK_ro, seqK_bk, seqK_ct, ok_ifM, ok_retM, ok_slO, ok_dropM, ok_skipM, ok_asgM, ok_par2VO, ok_par3,
  ok_callM, rtK_rt, rtK_ro, rtK_nx, ok_loopM, ok_lcM, ok_dispM, ok_prsN, ok_prsC, ok_hget0, getK_some, ok_hputM, putK0, pc, pb, pl, ppb, ppl, plen, ok_add, ok_addS, ok_addT, ok_addL, ok_sub, ok_mul, ok_ixL, ok_ixT, ok_unp, unpK_tup, ok_set0, ok_setC, ok_app, flK_nx, flK_ct, flK_bk, flK_rt, flK_ro, sl_L, sl_T, sl_S, it_L, it_T, wip, ok_div, ok_mod, ok_pow, ok_rep, ok_ord, ok_fInt, ok_fAbs, ok_fNeg, ok_lenL, ok_lenT, ok_lenS, ok_fListL, ok_fListT, ok_fTupleL, ok_fTupleT, ok_eqI, ok_eqB, ok_eqS,
  okF_ok, okF_exc, ok_runM, ok_appA, ok_len1, ok_chain, isNonB_non, isNonB_int, isNonB_bl, isNonB_str, isNonB_tup, isNonB_lst, isNonB_obj, ok_isN, ok_max, ok_min, isi_int_int, isi_int_bl, isi_int_non, isi_int_str, isi_int_tup, isi_int_lst, isi_bool_int, isi_bool_bl, isi_str_str, isi_str_int, isi_str_bl, isi_str_non, isi_str_tup, isi_str_lst, isi_tuple_tup, isi_tuple_int, isi_tuple_bl, isi_tuple_non, isi_tuple_str, isi_tuple_lst,
  ok_conM, ok_fputM, fputK_new, conV_new, ok_makeM, ok_methM, ok_insM, ok_raise,
  List.map_cons, List.map_nil, List.replicate_succ, List.replicate_zero, List.cons_append, List.nil_append, List.append_nil, List.getElem?_cons_zero, List.getElem?_cons_succ, List.set_cons_zero, List.set_cons_succ, Nat.reduceSub, decide_eq_true_eq, if_true, if_false, Bool.false_eq_true, Bool.not_true, Bool.not_false, beq_self_eq_true, Bool.true_eq_false, bne_self_eq_false, Bool.bne_true, Bool.bne_false, Nat.zero_add, Nat.reduceAdd, true_and, and_true, reduceCtorEq, List.length_cons, List.length_nil])
structure OfV where
  nm : Str
  src : Str
  dst : Str
  p : Int
  q : Int
  fee : Int
  least : Int
  most : Option Int
deriving DecidableEq
def OfV.mostV (o : OfV) : PV := match o.most with
  | none => .non
  | some m => .int m
structure OfV.Wf (o : OfV) : Prop where
  nm : Nm o.nm
  src : Nm o.src
  dst : Nm o.dst
  p : 1 ≤ o.p ∧ o.p ≤ 9
  q : 1 ≤ o.q ∧ o.q ≤ 9
  fee : 0 ≤ o.fee ∧ o.fee ≤ 20
  least : 0 ≤ o.least ∧ o.least ≤ 1000
  most : ∀ m, o.most = some m → o.least ≤ m ∧ m ≤ 1000000
def OfV.row (o : OfV) : PV := .tup [.str o.nm, .str o.src, .str o.dst, .tup [.int o.p, .int o.q], .int o.fee, .int o.least, o.mostV]
abbrev KS5 : List Str := ["name", "own_ends", "own_rate", "own_fee", "own_least"]
abbrev KS6 : List Str := ["name", "own_ends", "own_rate", "own_fee", "own_least", "own_most"]
abbrev OfV.vs5 (o : OfV) : List PV := [.str o.nm, .tup [.str o.src, .str o.dst], .tup [.int o.p, .int o.q], .int o.fee, .int o.least]
abbrev OfV.vs6 (o : OfV) (m : Int) : List PV := [.str o.nm, .tup [.str o.src, .str o.dst], .tup [.int o.p, .int o.q], .int o.fee, .int o.least, .int m]
def OfV.pv (o : OfV) : PV := match o.most with
  | none => .obj "Office" KS5 o.vs5
  | some m => .obj "CappedOffice" KS6 (o.vs6 m)
theorem OfV.pv_none {o : OfV} (h : o.most = none) : o.pv = .obj "Office" KS5 o.vs5 := by unfold OfV.pv; rw [h]
theorem OfV.pv_some {o : OfV} {m : Int} (h : o.most = some m) : o.pv = .obj "CappedOffice" KS6 (o.vs6 m) := by unfold OfV.pv; rw [h]
def OfV.cap (o : OfV) (a : Int) : Int := match o.most with
  | none => a
  | some m => min a m
def OfV.val (o : OfV) (a : Int) : Int := max 0 (o.cap a * o.p / o.q - o.fee)
def OfV.res (o : OfV) (a : Int) : PV := if o.cap a < o.least then .non else .int (o.val a)
set_option maxHeartbeats 4000000 in
theorem sp_row {n : Nat} {B : Int} {cells : List Int} {g st : List MO} {a b c : Str} {Q : PV → List MO → Prop} (hp : Pn cells B g st) (hB : B < 100000) (ha : Nm a) (hb : Nm b) (hc : Nm c)
    (h : ∀ (o : OfV) st', o.nm = a → o.src = b → o.dst = c → o.Wf → Pn cells (B + 50) g st' → Q o.row st') : OkF (m_law_row n [.hnd 0, .str a, .str b, .str c] st) Q := by
  have hz : sizeLine = 16777216 := sizeLine_eq
  unfold m_law_row
  refine okF_fnF rfl ?_
  unfold b_law_row
  walk_at "st"
  refine sp_draw hp (by omega) (by omega) fun p st1 hp0 hp1 hs1 => ?_
  refine sp_draw hs1 (by omega) (by omega) fun q st2 hq0 hq1 hs2 => ?_
  refine ⟨by omega, ?_⟩
  refine sp_draw hs2 (by omega) (by omega) fun f st3 hf0 hf1 hs3 => ?_
  refine ⟨by omega, ?_⟩
  refine sp_pickL hs3 (by simp) (by omega) fun v st4 hv hs4 => ?_
  obtain ⟨fee, rfl, hfee⟩ : ∃ x : Int, v = .int x ∧ 0 ≤ x ∧ x ≤ 20 := by
    simp only [List.mem_cons, List.not_mem_nil, or_false] at hv
    rcases hv with rfl | rfl | rfl | rfl | rfl <;> exact ⟨_, rfl, by omega, by omega⟩
  refine sp_draw hs4 (by omega) (by omega) fun l1 st5 hl0 hl1 hs5 => ?_
  refine sp_draw hs5 (by omega) (by omega) fun l2 st6 hl2 hl3 hs6 => ?_
  refine ⟨by omega, ?_⟩
  refine sp_pickL hs6 (by simp) (by omega) fun v st7 hv hs7 => ?_
  obtain ⟨least, rfl, hle⟩ : ∃ x : Int, v = .int x ∧ 0 ≤ x ∧ x ≤ 1000 := by
    simp only [List.mem_cons, List.not_mem_nil, or_false] at hv
    rcases hv with rfl | rfl | rfl | rfl | rfl | rfl <;> exact ⟨_, rfl, by omega, by omega⟩
  refine sp_draw hs7 (by omega) (by omega) fun z st8 hz0 hz1 hs8 => ?_
  walk_at "st"
  split
  · refine ⟨by decide +kernel, ?_⟩
    refine sp_draw hs8 (by omega) (by omega) fun w st9 hw0 hw1 hs9 => ?_
    refine sp_digits (k := 6) hs9 (by decide) (by omega) fun dg st10 hd0 hd1 hs10 => ?_
    refine ⟨by decide +kernel, by omega, ?_⟩
    refine sp_pickL hs10 (by simp) (by omega) fun v st11 hv hs11 => ?_
    have hd2 : dg < 1000000 := hd1
    obtain ⟨more, rfl, hmo⟩ : ∃ x : Int, v = .int x ∧ 0 ≤ x ∧ x ≤ 1000000 := by
      simp only [List.mem_cons, List.not_mem_nil, or_false] at hv
      rcases hv with rfl | rfl | rfl | rfl | rfl
      · exact ⟨_, rfl, by omega, by omega⟩
      · exact ⟨_, rfl, by omega, by omega⟩
      · exact ⟨_, rfl, by omega, by omega⟩
      · exact ⟨_, rfl, by omega, by omega⟩
      · exact ⟨_, rfl, by decide, by decide⟩
    walk_at "st"
    refine ⟨by omega, ?_⟩
    have e10 : (10 : Int) ^ (6 : Int).toNat = 1000000 := by decide
    refine h ⟨a, b, c, 1 + p, 1 + q, fee, least, some (min (10 ^ (6 : Int).toNat) (least + more))⟩ st11 rfl rfl rfl ⟨ha, hb, hc, ?_, ?_, hfee, hle, ?_⟩ (hs11.mono (by omega))
    · exact ⟨by show 1 ≤ 1 + p; omega, by show 1 + p ≤ 9; omega⟩
    · exact ⟨by show 1 ≤ 1 + q; omega, by show 1 + q ≤ 9; omega⟩
    · intro m hm
      have hm : min ((10 : Int) ^ (6 : Int).toNat) (least + more) = m := Option.some.inj hm
      rw [e10] at hm
      show least ≤ m ∧ m ≤ 1000000
      omega
  · walk_at "st"
    refine ⟨by omega, ?_⟩
    refine h ⟨a, b, c, 1 + p, 1 + q, fee, least, none⟩ st8 rfl rfl rfl ⟨ha, hb, hc, ?_, ?_, hfee, hle, ?_⟩ (hs8.mono (by omega))
    · exact ⟨by show 1 ≤ 1 + p; omega, by show 1 + p ≤ 9; omega⟩
    · exact ⟨by show 1 ≤ 1 + q; omega, by show 1 + q ≤ 9; omega⟩
    · intro m hm
      cases hm
/-! ### checks -/
def inB (lo hi a : Int) : Bool := decide (lo ≤ a) && decide (a ≤ hi)
set_option maxHeartbeats 4000000 in
theorem eq_is_integer {n : Nat} {a lo hi : Int} {st : List MO} : m_is_integer n [.int a, .int lo, .int hi] st = .ok (.bl (inB lo hi a)) st := by
  refine OkFx.eq ?_
  unfold m_is_integer
  refine okF_fnF rfl ?_
  unfold b_is_integer inB
  walk_at "st"
  by_cases h : lo ≤ a <;> simp [h, rtK]
set_option maxHeartbeats 4000000 in
theorem eq_need_name {n : Nat} {x : Str} {st : List MO} (h : Nm x) : m_need_name n [.str x] st = .ok .non st := by
  refine OkFx.eq ?_
  unfold m_need_name
  refine okF_fnF rfl ?_
  unfold b_need_name
  walk_at "st"
  rw [eq_is_name (by have := h.le; omega)]
  walk_at "st"
  rw [nameB_iff.mpr h]
  simp [rtK]
set_option maxHeartbeats 4000000 in
theorem eq_need_integer {n : Nat} {a lo hi : Int} {st : List MO} (h : lo ≤ a ∧ a ≤ hi) : m_need_integer n [.int a, .int lo, .int hi] st = .ok .non st := by
  refine OkFx.eq ?_
  unfold m_need_integer
  refine okF_fnF rfl ?_
  unfold b_need_integer
  walk_at "st"
  rw [eq_is_integer]
  walk_at "st"
  simp [inB, h.1, h.2, rtK]
set_option maxHeartbeats 4000000 in
theorem eq_is_rate {n : Nat} {p q : Int} {st : List MO} (hp : 1 ≤ p ∧ p ≤ 9) (hq : 1 ≤ q ∧ q ≤ 9) : m_is_rate n [.tup [.int p, .int q]] st = .ok (.bl true) st := by
  have hz : sizeLine = 16777216 := sizeLine_eq
  refine OkFx.eq ?_
  unfold m_is_rate
  refine okF_fnF rfl ?_
  unfold b_is_rate
  walk_at "st"
  simp
  walk_at "st"
  refine ok_lcT (as := [p, q]) PV.int (fun _ => true) (fun _ => PV.bl true) rfl (by simp) (by rw [hz]; simp) (fun _ => rfl) (fun c hc => ?_) (fun c hc _ => ?_) ?_
  · walk_at "st"
  · walk_at "st"
    rw [eq_is_integer]
    walk_at "st"
    simp only [List.mem_cons, List.not_mem_nil, or_false] at hc
    rcases hc with rfl | rfl <;> simp [inB, hp, hq]
  · rw [filter_true]
    refine ok_allM.mpr ?_
    simp [rtK]
/-! ### offices made -/
def isOff (c : Str) : Prop := c = "Office" ∨ c = "CappedOffice"
theorem isOff.mem {c : Str} (h : isOff c) : c ∈ (["Office", "CappedOffice"] : List Str) := by
  rcases h with rfl | rfl <;> decide +kernel
theorem putKV_new {f : Str} {v : PV} : ∀ {ks : List Str} {vs : List PV}, f ∉ ks → ks.length = vs.length → putKV f v ks vs = (ks ++ [f], vs ++ [v])
  | [], [], _, _ => rfl
  | k :: ks, w :: vs, h, hl => by
    have h1 : ¬ k = f := fun e => h (by rw [e]; exact List.mem_cons_self)
    have ih := putKV_new (f := f) (v := v) (ks := ks) (vs := vs) (fun m => h (List.mem_cons_of_mem _ m)) (by simpa using hl)
    unfold putKV
    rw [if_neg h1, ih]
    rfl
  | [], _ :: _, _, hl => by cases hl
  | _ :: _, [], _, hl => by cases hl
theorem pk1 {v : PV} : putKV "name" v [] [] = ((["name"] : List Str), ([v] : List PV)) := rfl
theorem pk2 {a v : PV} : putKV "own_ends" v ["name"] [a] = ((["name", "own_ends"] : List Str), ([a, v] : List PV)) := putKV_new (by decide +kernel) rfl
theorem pk3 {a b v : PV} : putKV "own_rate" v ["name", "own_ends"] [a, b] = ((["name", "own_ends", "own_rate"] : List Str), ([a, b, v] : List PV)) := putKV_new (by decide +kernel) rfl
theorem pk4 {a b c v : PV} : putKV "own_fee" v ["name", "own_ends", "own_rate"] [a, b, c] = ((["name", "own_ends", "own_rate", "own_fee"] : List Str), ([a, b, c, v] : List PV)) := putKV_new (by decide +kernel) rfl
theorem pk5 {a b c d v : PV} : putKV "own_least" v ["name", "own_ends", "own_rate", "own_fee"] [a, b, c, d] = (KS5, [a, b, c, d, v]) := putKV_new (by decide +kernel) rfl
theorem pk6 {a b c d e v : PV} : putKV "own_most" v KS5 [a, b, c, d, e] = (KS6, [a, b, c, d, e, v]) := putKV_new (by decide +kernel) rfl
set_option maxHeartbeats 4000000 in
theorem eq_Office_init {n : Nat} {c : Str} {o : OfV} {st : List MO} (hc : isOff c) (h : o.Wf) : m_Office_init n [.hnd st.length, .str o.nm, .str o.src, .str o.dst, .tup [.int o.p, .int o.q], .int o.fee, .int o.least] (mkS st c [] []) = .ok .non (mkS st c KS5 o.vs5) := by
  have hz : sizeLine = 16777216 := sizeLine_eq
  refine OkFx.eq ?_
  unfold m_Office_init
  refine okF_fnF rfl ?_
  unfold b_Office_init
  refine ok_seq ?_
  walk_at "sx"
  refine ⟨by omega, ?_⟩
  refine ok_for (fun j s => ∃ e7, s = ⟨[some (SV.val (PV.hnd st.length)), some (SV.val (PV.str o.nm)), some (SV.val (PV.str o.src)), some (SV.val (PV.str o.dst)), some (SV.val (PV.tup [.int o.p, .int o.q])), some (SV.val (PV.int o.fee)), some (SV.val (PV.int o.least)), e7], mkS st c [] []⟩) ⟨none, rfl⟩ ?_ ?_
  · rintro j x s hx ⟨e7, rfl⟩
    have hm := List.mem_of_getElem? hx
    obtain ⟨y, rfl, hy⟩ : ∃ y : Str, x = .str y ∧ Nm y := by
      simp only [List.mem_cons, List.not_mem_nil, or_false] at hm
      rcases hm with rfl | rfl | rfl
      · exact ⟨_, rfl, h.nm⟩
      · exact ⟨_, rfl, h.src⟩
      · exact ⟨_, rfl, h.dst⟩
    walk_at "st"
    rw [eq_need_name hy]
    walk_at "st"
    exact ⟨_, rfl⟩
  rintro s ⟨e7, rfl⟩
  walk_at "st"
  rw [eq_is_rate h.p h.q]
  walk_at "st"
  refine ⟨⟨hc.mem, rfl⟩, ?_⟩
  rw [eq_need_integer h.fee]
  walk_at "st"
  refine ⟨⟨hc.mem, rfl⟩, ?_⟩
  rw [eq_need_integer h.least]
  walk_at "st"
  simp only [pk1, pk2, pk3, pk4, pk5, List.length_cons, List.length_nil, hc.mem, true_and]
  refine ⟨by decide, by omega, ?_⟩
  walk_at "st"
  trivial
end Lw
/-! A4: offices made and asked. -/
namespace Lw
open PySem Dn
open L2 hiding bin
local macro_rules | `(tactic| walk_at "st") => `(tactic| try simp only [ok_ret, ok_bnd, ok_bin, ok_var, varK_val, varK_own, pv_val, pv_own, ok_asB, asBK_bl, ok_andT, ok_orT, ok_notT, ok_iteT, ok_andV, ok_notV, blK_bl,
  ok_argN, ok_argC, ok_fits, ok_tupM, ok_lstM, ok_parN, ok_parS, intK_int, ok_slM, lstK_lst, ok_joinM, strK_str, ok_itemsM, ok_rngM, ok_seqM, seqK_nx, seqK_rt, seqK_ro, seqK_bk, seqK_ct, ok_ifM, ok_retM, ok_slO, ok_dropM, ok_skipM, ok_asgM, ok_par2VO, ok_par3,
  ok_callM, rtK_rt, rtK_ro, rtK_nx, ok_loopM, ok_lcM, ok_dispM, ok_prsN, ok_prsC, ok_hget0, getK_some, ok_hputM, putK0, pc, pb, pl, ppb, ppl, plen, ok_add, ok_addS, ok_addT, ok_addL, ok_sub, ok_mul, ok_ixL, ok_ixT, ok_unp, unpK_tup, ok_set0, ok_setC, ok_app, flK_nx, flK_ct, flK_bk, flK_rt, flK_ro, sl_L, sl_T, sl_S, it_L, it_T, wip, ok_div, ok_mod, ok_pow, ok_rep, ok_ord, ok_fInt, ok_fAbs, ok_fNeg, ok_lenL, ok_lenT, ok_lenS, ok_fListL, ok_fListT, ok_fTupleL, ok_fTupleT, ok_eqI, ok_eqB, ok_eqS,
  okF_ok, okF_exc, ok_runM, ok_appA, ok_len1, ok_chain, isNonB_non, isNonB_int, isNonB_bl, isNonB_str, isNonB_tup, isNonB_lst, isNonB_obj, ok_isN, ok_max, ok_min, isi_int_int, isi_int_bl, isi_int_non, isi_int_str, isi_int_tup, isi_int_lst, isi_bool_int, isi_bool_bl, isi_str_str, isi_str_int, isi_str_bl, isi_str_non, isi_str_tup, isi_str_lst, isi_tuple_tup, isi_tuple_int, isi_tuple_bl, isi_tuple_non, isi_tuple_str, isi_tuple_lst,
  ok_conM, ok_fputM, fputK_new, conV_new, ok_makeM, ok_methM, ok_insM, ok_raise,
  List.map_cons, List.map_nil, List.replicate_succ, List.replicate_zero, List.cons_append, List.nil_append, List.append_nil, List.getElem?_cons_zero, List.getElem?_cons_succ, List.set_cons_zero, List.set_cons_succ, Nat.reduceSub, decide_eq_true_eq, if_true, if_false, Bool.false_eq_true, Bool.not_true, Bool.not_false, beq_self_eq_true, Bool.true_eq_false, bne_self_eq_false, Bool.bne_true, Bool.bne_false, Nat.zero_add, Nat.reduceAdd, true_and, and_true, reduceCtorEq, List.length_cons, List.length_nil])
local macro_rules | `(tactic| walk_at "sx") => `(tactic| try simp only [ok_ret, ok_bnd, ok_bin, ok_var, varK_val, varK_own, pv_val, pv_own, ok_asB, asBK_bl, ok_andT, ok_orT, ok_notT, ok_iteT, ok_andV, ok_notV, blK_bl,
  ok_argN, ok_argC, ok_fits, ok_tupM, ok_lstM, ok_parN, ok_parS, intK_int, ok_slM, lstK_lst, ok_joinM, strK_str, ok_itemsM, ok_rngM, seqK_nx, seqK_rt, seqK_ro, seqK_bk, seqK_ct, ok_ifM, ok_retM, ok_slO, ok_dropM, ok_skipM, ok_asgM, ok_par2VO, ok_par3,
  ok_callM, rtK_rt, rtK_ro, rtK_nx, ok_loopM, ok_lcM, ok_dispM, ok_prsN, ok_prsC, ok_hget0, getK_some, ok_hputM, putK0, pc, pb, pl, ppb, ppl, plen, ok_add, ok_addS, ok_addT, ok_addL, ok_sub, ok_mul, ok_ixL, ok_ixT, ok_unp, unpK_tup, ok_set0, ok_setC, ok_app, flK_nx, flK_ct, flK_bk, flK_rt, flK_ro, sl_L, sl_T, sl_S, it_L, it_T, wip, ok_div, ok_mod, ok_pow, ok_rep, ok_ord, ok_fInt, ok_fAbs, ok_fNeg, ok_lenL, ok_lenT, ok_lenS, ok_fListL, ok_fListT, ok_fTupleL, ok_fTupleT, ok_eqI, ok_eqB, ok_eqS,
  okF_ok, okF_exc, ok_runM, ok_appA, ok_len1, ok_chain, isNonB_non, isNonB_int, isNonB_bl, isNonB_str, isNonB_tup, isNonB_lst, isNonB_obj, ok_isN, ok_max, ok_min, isi_int_int, isi_int_bl, isi_int_non, isi_int_str, isi_int_tup, isi_int_lst, isi_bool_int, isi_bool_bl, isi_str_str, isi_str_int, isi_str_bl, isi_str_non, isi_str_tup, isi_str_lst, isi_tuple_tup, isi_tuple_int, isi_tuple_bl, isi_tuple_non, isi_tuple_str, isi_tuple_lst,
  ok_conM, ok_fputM, fputK_new, conV_new, ok_makeM, ok_methM, ok_insM, ok_raise,
  List.map_cons, List.map_nil, List.replicate_succ, List.replicate_zero, List.cons_append, List.nil_append, List.append_nil, List.getElem?_cons_zero, List.getElem?_cons_succ, List.set_cons_zero, List.set_cons_succ, Nat.reduceSub, decide_eq_true_eq, if_true, if_false, Bool.false_eq_true, Bool.not_true, Bool.not_false, beq_self_eq_true, Bool.true_eq_false, bne_self_eq_false, Bool.bne_true, Bool.bne_false, Nat.zero_add, Nat.reduceAdd, true_and, and_true, reduceCtorEq, List.length_cons, List.length_nil])
set_option maxHeartbeats 4000000 in
theorem eq_Capped_init {n : Nat} {o : OfV} {m : Int} {st : List MO} (h : o.Wf) (hm : o.most = some m) : m_CappedOffice_init n [.hnd st.length, .str o.nm, .str o.src, .str o.dst, .tup [.int o.p, .int o.q], .int m, .int o.fee, .int o.least] (mkS st "CappedOffice" [] []) = .ok .non (mkS st "CappedOffice" KS6 (o.vs6 m)) := by
  have hz : sizeLine = 16777216 := sizeLine_eq
  refine OkFx.eq ?_
  unfold m_CappedOffice_init
  refine okF_fnF rfl ?_
  unfold b_CappedOffice_init
  refine ok_seq ?_
  walk_at "sx"
  rw [ok_sup rfl insOf_new (m := m_Office_init) rfl]
  walk_at "sx"
  rw [eq_Office_init (o := o) (.inr rfl) h]
  walk_at "st"
  refine ⟨⟨by decide +kernel, rfl⟩, ?_⟩
  rw [eq_need_integer (h.most m hm)]
  walk_at "st"
  simp only [pk6, List.length_cons, List.length_nil]
  refine ⟨⟨by decide +kernel, by decide⟩, trivial⟩
theorem mostV_none {o : OfV} (h : o.most = none) : o.mostV = .non := by unfold OfV.mostV; rw [h]
theorem mostV_some {o : OfV} {m : Int} (h : o.most = some m) : o.mostV = .int m := by unfold OfV.mostV; rw [h]
theorem ix_row {o : OfV} {k : Int} {v : PV} {s : S} {E : PV → S → Prop} {Q : PV → S → Prop} (h : L2.atI [.str o.nm, .str o.src, .str o.dst, .tup [.int o.p, .int o.q], .int o.fee, .int o.least, o.mostV] k = some v) : Okx E (lft (ixP o.row (.int k))) s Q ↔ Q v s := by
  rw [ok_lft]
  show (∃ a, L2.atI _ k = some a ∧ Q a s) ↔ _
  rw [h]
  simp
section
variable {o : OfV} {s : S} {E : PV → S → Prop} {Q : PV → S → Prop}
theorem row0 : Okx E (lft (ixP o.row (.int 0))) s Q ↔ Q (.str o.nm) s := ix_row rfl
theorem row1 : Okx E (lft (ixP o.row (.int 1))) s Q ↔ Q (.str o.src) s := ix_row rfl
theorem row2 : Okx E (lft (ixP o.row (.int 2))) s Q ↔ Q (.str o.dst) s := ix_row rfl
theorem row3 : Okx E (lft (ixP o.row (.int 3))) s Q ↔ Q (.tup [.int o.p, .int o.q]) s := ix_row rfl
theorem row4 : Okx E (lft (ixP o.row (.int 4))) s Q ↔ Q (.int o.fee) s := ix_row rfl
theorem row5 : Okx E (lft (ixP o.row (.int 5))) s Q ↔ Q (.int o.least) s := ix_row rfl
theorem row6 : Okx E (lft (ixP o.row (.int 6))) s Q ↔ Q o.mostV s := ix_row rfl
end
local macro_rules | `(tactic| walk_at "st") => `(tactic| try simp only [ok_ret, ok_bnd, ok_bin, ok_var, varK_val, varK_own, pv_val, pv_own, ok_asB, asBK_bl, ok_andT, ok_orT, ok_notT, ok_iteT, ok_andV, ok_notV, blK_bl,
  ok_argN, ok_argC, ok_fits, ok_tupM, ok_lstM, ok_parN, ok_parS, intK_int, ok_slM, lstK_lst, ok_joinM, strK_str, ok_itemsM, ok_rngM, ok_seqM, seqK_nx, seqK_rt, seqK_ro, seqK_bk, seqK_ct, ok_ifM, ok_retM, ok_slO, ok_dropM, ok_skipM, ok_asgM, ok_par2VO, ok_par3,
  ok_callM, rtK_rt, rtK_ro, rtK_nx, ok_loopM, ok_lcM, ok_dispM, ok_prsN, ok_prsC, ok_hget0, getK_some, ok_hputM, putK0, pc, pb, pl, ppb, ppl, plen, ok_add, ok_addS, ok_addT, ok_addL, ok_sub, ok_mul, ok_ixL, ok_ixT, ok_unp, unpK_tup, ok_set0, ok_setC, ok_app, flK_nx, flK_ct, flK_bk, flK_rt, flK_ro, sl_L, sl_T, sl_S, it_L, it_T, wip, ok_div, ok_mod, ok_pow, ok_rep, ok_ord, ok_fInt, ok_fAbs, ok_fNeg, ok_lenL, ok_lenT, ok_lenS, ok_fListL, ok_fListT, ok_fTupleL, ok_fTupleT, ok_eqI, ok_eqB, ok_eqS,
  okF_ok, okF_exc, ok_runM, ok_appA, ok_len1, ok_chain, isNonB_non, isNonB_int, isNonB_bl, isNonB_str, isNonB_tup, isNonB_lst, isNonB_obj, ok_isN, ok_max, ok_min, isi_int_int, isi_int_bl, isi_int_non, isi_int_str, isi_int_tup, isi_int_lst, isi_bool_int, isi_bool_bl, isi_str_str, isi_str_int, isi_str_bl, isi_str_non, isi_str_tup, isi_str_lst, isi_tuple_tup, isi_tuple_int, isi_tuple_bl, isi_tuple_non, isi_tuple_str, isi_tuple_lst,
  ok_conM, ok_fputM, fputK_new, conV_new, ok_makeM, ok_methM, ok_insM, ok_raise,
  List.map_cons, List.map_nil, List.replicate_succ, List.replicate_zero, List.cons_append, List.nil_append, List.append_nil, List.getElem?_cons_zero, List.getElem?_cons_succ, List.set_cons_zero, List.set_cons_succ, Nat.reduceSub, decide_eq_true_eq, if_true, if_false, Bool.false_eq_true, Bool.not_true, Bool.not_false, beq_self_eq_true, Bool.true_eq_false, bne_self_eq_false, Bool.bne_true, Bool.bne_false, Nat.zero_add, Nat.reduceAdd, true_and, and_true, reduceCtorEq, List.length_cons, List.length_nil, row0, row1, row2, row3, row4, row5, row6])
set_option maxHeartbeats 4000000 in
theorem eq_made {n : Nat} {o : OfV} {st : List MO} (h : o.Wf) : m_law_made n [o.row] st = .ok o.pv (st ++ [.gone, .gone]) := by
  refine OkFx.eq ?_
  unfold m_law_made
  refine okF_fnF rfl ?_
  unfold b_law_made
  walk_at "st"
  cases hm : o.most with
  | none =>
    rw [mostV_none hm, OfV.pv_none hm]
    walk_at "st"
    rw [ok_made (eq_Office_init (.inl rfl) h)]
    trivial
  | some m =>
    rw [mostV_some hm, OfV.pv_some hm]
    walk_at "st"
    rw [ok_made (eq_Capped_init h hm)]
    trivial
/-! ### fields -/
section
variable {o : OfV} {s : S} {E : PV → S → Prop} {Q : PV → S → Prop} {cs : List Str}
theorem fld_of (hc : (["Office", "CappedOffice"] : List Str) = cs) {f : Str} {v : PV} (h5 : (KS5.zip o.vs5).lookup f = some v) (h6 : ∀ m, (KS6.zip (o.vs6 m)).lookup f = some v) : Okx E (fldM cs f o.pv) s Q ↔ Q v s := by
  refine ok_fld ?_
  subst hc
  cases hm : o.most with
  | none =>
    rw [OfV.pv_none hm]
    unfold fldV
    rw [insOf_obj]
    exact (if_pos (by decide +kernel)).trans h5
  | some m =>
    rw [OfV.pv_some hm]
    unfold fldV
    rw [insOf_obj]
    exact (if_pos (by decide +kernel)).trans (h6 m)
theorem f_name : Okx E (fldM ["Office", "CappedOffice"] "name" o.pv) s Q ↔ Q (.str o.nm) s := fld_of rfl rfl fun _ => rfl
theorem f_ends : Okx E (fldM ["Office", "CappedOffice"] "own_ends" o.pv) s Q ↔ Q (.tup [.str o.src, .str o.dst]) s := fld_of rfl rfl fun _ => rfl
theorem f_rate : Okx E (fldM ["Office", "CappedOffice"] "own_rate" o.pv) s Q ↔ Q (.tup [.int o.p, .int o.q]) s := fld_of rfl rfl fun _ => rfl
theorem f_fee : Okx E (fldM ["Office", "CappedOffice"] "own_fee" o.pv) s Q ↔ Q (.int o.fee) s := fld_of rfl rfl fun _ => rfl
theorem f_least : Okx E (fldM ["Office", "CappedOffice"] "own_least" o.pv) s Q ↔ Q (.int o.least) s := fld_of rfl rfl fun _ => rfl
theorem f_most {m : Int} (h : o.most = some m) : Okx E (fldM ["CappedOffice"] "own_most" o.pv) s Q ↔ Q (.int m) s := by
  refine ok_fld ?_
  rw [OfV.pv_some h]
  unfold fldV
  rw [insOf_obj]
  exact (if_pos (by decide +kernel)).trans rfl
end
end Lw
/-! A5: offices asked: results. -/
namespace Lw
open PySem Dn
open L2 hiding bin
local macro_rules | `(tactic| walk_at "st") => `(tactic| try simp only [ok_ret, ok_bnd, ok_bin, ok_var, varK_val, varK_own, pv_val, pv_own, ok_asB, asBK_bl, ok_andT, ok_orT, ok_notT, ok_iteT, ok_andV, ok_notV, blK_bl,
  ok_argN, ok_argC, ok_fits, ok_tupM, ok_lstM, ok_parN, ok_parS, intK_int, ok_slM, lstK_lst, ok_joinM, strK_str, ok_itemsM, ok_rngM, ok_seqM, seqK_nx, seqK_rt, seqK_ro, seqK_bk, seqK_ct, ok_ifM, ok_retM, ok_slO, ok_dropM, ok_skipM, ok_asgM, ok_par2VO, ok_par3,
  ok_callM, rtK_rt, rtK_ro, rtK_nx, ok_loopM, ok_lcM, ok_dispM, ok_prsN, ok_prsC, ok_hget0, getK_some, ok_hputM, putK0, pc, pb, pl, ppb, ppl, plen, ok_add, ok_addS, ok_addT, ok_addL, ok_sub, ok_mul, ok_ixL, ok_ixT, ok_unp, unpK_tup, ok_set0, ok_setC, ok_app, flK_nx, flK_ct, flK_bk, flK_rt, flK_ro, sl_L, sl_T, sl_S, it_L, it_T, wip, ok_div, ok_mod, ok_pow, ok_rep, ok_ord, ok_fInt, ok_fAbs, ok_fNeg, ok_lenL, ok_lenT, ok_lenS, ok_fListL, ok_fListT, ok_fTupleL, ok_fTupleT, ok_eqI, ok_eqB, ok_eqS,
  okF_ok, okF_exc, ok_runM, ok_appA, ok_len1, ok_chain, isNonB_non, isNonB_int, isNonB_bl, isNonB_str, isNonB_tup, isNonB_lst, isNonB_obj, ok_isN, ok_max, ok_min, isi_int_int, isi_int_bl, isi_int_non, isi_int_str, isi_int_tup, isi_int_lst, isi_bool_int, isi_bool_bl, isi_str_str, isi_str_int, isi_str_bl, isi_str_non, isi_str_tup, isi_str_lst, isi_tuple_tup, isi_tuple_int, isi_tuple_bl, isi_tuple_non, isi_tuple_str, isi_tuple_lst,
  ok_conM, ok_fputM, fputK_new, conV_new, ok_makeM, ok_methM, ok_insM, ok_raise,
  List.map_cons, List.map_nil, List.replicate_succ, List.replicate_zero, List.cons_append, List.nil_append, List.append_nil, List.getElem?_cons_zero, List.getElem?_cons_succ, List.set_cons_zero, List.set_cons_succ, Nat.reduceSub, decide_eq_true_eq, if_true, if_false, Bool.false_eq_true, Bool.not_true, Bool.not_false, beq_self_eq_true, Bool.true_eq_false, bne_self_eq_false, Bool.bne_true, Bool.bne_false, Nat.zero_add, Nat.reduceAdd, true_and, and_true, reduceCtorEq, List.length_cons, List.length_nil, row0, row1, row2, row3, row4, row5, row6, f_name, f_ends, f_rate, f_fee, f_least])
local macro_rules | `(tactic| walk_at "sx") => `(tactic| try simp only [ok_ret, ok_bnd, ok_bin, ok_var, varK_val, varK_own, pv_val, pv_own, ok_asB, asBK_bl, ok_andT, ok_orT, ok_notT, ok_iteT, ok_andV, ok_notV, blK_bl,
  ok_argN, ok_argC, ok_fits, ok_tupM, ok_lstM, ok_parN, ok_parS, intK_int, ok_slM, lstK_lst, ok_joinM, strK_str, ok_itemsM, ok_rngM, seqK_nx, seqK_rt, seqK_ro, seqK_bk, seqK_ct, ok_ifM, ok_retM, ok_slO, ok_dropM, ok_skipM, ok_asgM, ok_par2VO, ok_par3,
  ok_callM, rtK_rt, rtK_ro, rtK_nx, ok_loopM, ok_lcM, ok_dispM, ok_prsN, ok_prsC, ok_hget0, getK_some, ok_hputM, putK0, pc, pb, pl, ppb, ppl, plen, ok_add, ok_addS, ok_addT, ok_addL, ok_sub, ok_mul, ok_ixL, ok_ixT, ok_unp, unpK_tup, ok_set0, ok_setC, ok_app, flK_nx, flK_ct, flK_bk, flK_rt, flK_ro, sl_L, sl_T, sl_S, it_L, it_T, wip, ok_div, ok_mod, ok_pow, ok_rep, ok_ord, ok_fInt, ok_fAbs, ok_fNeg, ok_lenL, ok_lenT, ok_lenS, ok_fListL, ok_fListT, ok_fTupleL, ok_fTupleT, ok_eqI, ok_eqB, ok_eqS,
  okF_ok, okF_exc, ok_runM, ok_appA, ok_len1, ok_chain, isNonB_non, isNonB_int, isNonB_bl, isNonB_str, isNonB_tup, isNonB_lst, isNonB_obj, ok_isN, ok_max, ok_min, isi_int_int, isi_int_bl, isi_int_non, isi_int_str, isi_int_tup, isi_int_lst, isi_bool_int, isi_bool_bl, isi_str_str, isi_str_int, isi_str_bl, isi_str_non, isi_str_tup, isi_str_lst, isi_tuple_tup, isi_tuple_int, isi_tuple_bl, isi_tuple_non, isi_tuple_str, isi_tuple_lst,
  ok_conM, ok_fputM, fputK_new, conV_new, ok_makeM, ok_methM, ok_insM, ok_raise,
  List.map_cons, List.map_nil, List.replicate_succ, List.replicate_zero, List.cons_append, List.nil_append, List.append_nil, List.getElem?_cons_zero, List.getElem?_cons_succ, List.set_cons_zero, List.set_cons_succ, Nat.reduceSub, decide_eq_true_eq, if_true, if_false, Bool.false_eq_true, Bool.not_true, Bool.not_false, beq_self_eq_true, Bool.true_eq_false, bne_self_eq_false, Bool.bne_true, Bool.bne_false, Nat.zero_add, Nat.reduceAdd, true_and, and_true, reduceCtorEq, List.length_cons, List.length_nil, row0, row1, row2, row3, row4, row5, row6, f_name, f_ends, f_rate, f_fee, f_least])
theorem eq_need_amount {n : Nat} {a : Int} {st : List MO} (h : 0 ≤ a ∧ a ≤ 1000000000000000000000000000000) : m_need_amount n [.int a] st = .ok .non st := by
  refine OkFx.eq ?_
  unfold m_need_amount
  refine okF_fnF rfl ?_
  unfold b_need_amount
  walk_at "st"
  rw [eq_need_integer h]
  trivial
theorem cap_lt {o : OfV} (h : o.Wf) {a : Int} : o.cap a < o.least ↔ a < o.least := by
  unfold OfV.cap
  cases hm : o.most with
  | none => exact Iff.rfl
  | some m =>
    have := (h.most m hm).1
    show min a m < o.least ↔ _
    omega
theorem res_closed {o : OfV} (h : o.Wf) {a : Int} (ha : a < o.least) : o.res a = .non := if_pos ((cap_lt h).mpr ha)
theorem res_open {o : OfV} (h : o.Wf) {a : Int} (ha : ¬ a < o.least) : o.res a = .int (o.val a) := if_neg fun z => ha ((cap_lt h).mp z)
abbrev Amz (a : Int) : Prop := -1000000000000000000000000000000000000 ≤ a ∧ a ≤ 1000000000000000000000000000000000000
theorem cmul120 {a b : Int} (ha : Amz a) (hb : Amz b) : L2.CMulW a b :=
  cmul_of (Nat.lt_of_le_of_lt (show a.natAbs ≤ 1000000000000000000000000000000000000 by omega) (by decide)) (Nat.lt_of_le_of_lt (show b.natAbs ≤ 1000000000000000000000000000000000000 by omega) (by decide))
set_option maxHeartbeats 4000000 in
theorem eq_Office_result {n : Nat} {o : OfV} {a : Int} {st : List MO} (h : o.Wf) (ha : Amz a) : m_Office_result n [o.pv, .int a] st = .ok (if a < o.least then .non else .int (max 0 (a * o.p / o.q - o.fee))) st := by
  have hp := h.p
  have hq := h.q
  refine OkFx.eq ?_
  unfold m_Office_result
  refine okF_fnF rfl ?_
  unfold b_Office_result
  walk_at "st"
  split
  · trivial
  · refine ⟨cmul120 ha (by omega), cdiv100 (by omega) (by omega), rfl⟩
set_option maxHeartbeats 4000000 in
theorem eq_Capped_result {n : Nat} {o : OfV} {a m : Int} {st : List MO} (h : o.Wf) (hm : o.most = some m) (ha : Amz a) : m_CappedOffice_result n [o.pv, .int a] st = .ok (if min a m < o.least then .non else .int (max 0 (min a m * o.p / o.q - o.fee))) st := by
  have hm2 := h.most m hm
  have hl := h.least
  refine OkFx.eq ?_
  unfold m_CappedOffice_result
  refine okF_fnF rfl ?_
  unfold b_CappedOffice_result
  refine ok_seq ?_
  walk_at "sx"
  rw [ok_sup (d := o.pv) (m := m_Office_result) (c := "CappedOffice") (ks := KS6) (vs := o.vs6 m) rfl (by rw [OfV.pv_some hm]; rfl) rfl]
  walk_at "sx"
  rw [f_most hm]
  walk_at "sx"
  rw [eq_Office_result h (by omega)]
  trivial
noncomputable def OfV.fResult (o : OfV) : Fn := match o.most with
  | none => m_Office_result
  | some _ => m_CappedOffice_result
theorem eq_result {n : Nat} {o : OfV} {a : Int} {st : List MO} (h : o.Wf) (ha : Amz a) : o.fResult n [o.pv, .int a] st = .ok (o.res a) st := by
  unfold OfV.fResult OfV.res OfV.val OfV.cap
  cases hm : o.most with
  | none => exact eq_Office_result h ha
  | some m => exact eq_Capped_result h hm ha
theorem o_result {n : Nat} {o : OfV} {ra : M (List PV)} : methD tm_result_2 n "result" ra o.pv = bnd ra fun ds => runM o.fResult n (o.pv :: ds) := by
  unfold OfV.fResult
  cases hm : o.most with
  | none => rw [OfV.pv_none hm]; exact methD_obj rfl rfl
  | some m => rw [OfV.pv_some hm]; exact methD_obj rfl rfl
theorem o_call {n : Nat} {o : OfV} {ra : M (List PV)} : insD ti_2 n ra o.pv = bnd ra fun ds => runM m_Office_call n (o.pv :: ds) := by
  cases hm : o.most with
  | none => rw [OfV.pv_none hm]; exact insD_obj rfl
  | some m => rw [OfV.pv_some hm]; exact insD_obj rfl
abbrev closedE (o : OfV) : PV := .obj "Closed" ["name"] [.str o.nm]
local macro_rules | `(tactic| walk_at "st") => `(tactic| try simp only [ok_ret, ok_bnd, ok_bin, ok_var, varK_val, varK_own, pv_val, pv_own, ok_asB, asBK_bl, ok_andT, ok_orT, ok_notT, ok_iteT, ok_andV, ok_notV, blK_bl,
  ok_argN, ok_argC, ok_fits, ok_tupM, ok_lstM, ok_parN, ok_parS, intK_int, ok_slM, lstK_lst, ok_joinM, strK_str, ok_itemsM, ok_rngM, ok_seqM, seqK_nx, seqK_rt, seqK_ro, seqK_bk, seqK_ct, ok_ifM, ok_retM, ok_slO, ok_dropM, ok_skipM, ok_asgM, ok_par2VO, ok_par3,
  ok_callM, rtK_rt, rtK_ro, rtK_nx, ok_loopM, ok_lcM, ok_dispM, ok_prsN, ok_prsC, ok_hget0, getK_some, ok_hputM, putK0, pc, pb, pl, ppb, ppl, plen, ok_add, ok_addS, ok_addT, ok_addL, ok_sub, ok_mul, ok_ixL, ok_ixT, ok_unp, unpK_tup, ok_set0, ok_setC, ok_app, flK_nx, flK_ct, flK_bk, flK_rt, flK_ro, sl_L, sl_T, sl_S, it_L, it_T, wip, ok_div, ok_mod, ok_pow, ok_rep, ok_ord, ok_fInt, ok_fAbs, ok_fNeg, ok_lenL, ok_lenT, ok_lenS, ok_fListL, ok_fListT, ok_fTupleL, ok_fTupleT, ok_eqI, ok_eqB, ok_eqS,
  okF_ok, okF_exc, ok_runM, ok_appA, ok_len1, ok_chain, isNonB_non, isNonB_int, isNonB_bl, isNonB_str, isNonB_tup, isNonB_lst, isNonB_obj, ok_isN, ok_max, ok_min, isi_int_int, isi_int_bl, isi_int_non, isi_int_str, isi_int_tup, isi_int_lst, isi_bool_int, isi_bool_bl, isi_str_str, isi_str_int, isi_str_bl, isi_str_non, isi_str_tup, isi_str_lst, isi_tuple_tup, isi_tuple_int, isi_tuple_bl, isi_tuple_non, isi_tuple_str, isi_tuple_lst,
  ok_conM, ok_fputM, fputK_new, conV_new, ok_makeM, ok_methM, ok_insM, ok_raise,
  List.map_cons, List.map_nil, List.replicate_succ, List.replicate_zero, List.cons_append, List.nil_append, List.append_nil, List.getElem?_cons_zero, List.getElem?_cons_succ, List.set_cons_zero, List.set_cons_succ, Nat.reduceSub, decide_eq_true_eq, if_true, if_false, Bool.false_eq_true, Bool.not_true, Bool.not_false, beq_self_eq_true, Bool.true_eq_false, bne_self_eq_false, Bool.bne_true, Bool.bne_false, Nat.zero_add, Nat.reduceAdd, true_and, and_true, reduceCtorEq, List.length_cons, List.length_nil, row0, row1, row2, row3, row4, row5, row6, f_name, f_ends, f_rate, f_fee, f_least, o_result, o_call])
set_option maxHeartbeats 4000000 in
theorem eq_call {n : Nat} {o : OfV} {a : Int} {st : List MO} (h : o.Wf) (ha : 0 ≤ a ∧ a ≤ 1000000000000000000000000000000) : m_Office_call n [o.pv, .int a] st = if a < o.least then .exc (closedE o) st else .ok (.int (o.val a)) st := by
  split
  · rename_i hl
    refine OkFx.eqx ?_
    unfold m_Office_call
    refine okF_fnF rfl ?_
    unfold b_Office_call
    walk_at "st"
    rw [eq_need_amount ha]
    walk_at "st"
    rw [eq_result h (by omega), res_closed h hl]
    walk_at "st"
  · rename_i hl
    refine OkFx.eq ?_
    unfold m_Office_call
    refine okF_fnF rfl ?_
    unfold b_Office_call
    walk_at "st"
    rw [eq_need_amount ha]
    walk_at "st"
    rw [eq_result h (by omega), res_open h hl]
    walk_at "st"
end Lw
/-! A6: amounts drawn; how results grow. -/
namespace Lw
open PySem Dn
open L2 hiding bin
local macro_rules | `(tactic| walk_at "st") => `(tactic| try simp only [ok_ret, ok_bnd, ok_bin, ok_var, varK_val, varK_own, pv_val, pv_own, ok_asB, asBK_bl, ok_andT, ok_orT, ok_notT, ok_iteT, ok_andV, ok_notV, blK_bl,
  ok_argN, ok_argC, ok_fits, ok_tupM, ok_lstM, ok_parN, ok_parS, intK_int, ok_slM, lstK_lst, ok_joinM, strK_str, ok_itemsM, ok_rngM, ok_seqM, seqK_nx, seqK_rt, seqK_ro, seqK_bk, seqK_ct, ok_ifM, ok_retM, ok_slO, ok_dropM, ok_skipM, ok_asgM, ok_par2VO, ok_par3,
  ok_callM, rtK_rt, rtK_ro, rtK_nx, ok_loopM, ok_lcM, ok_dispM, ok_prsN, ok_prsC, ok_hget0, getK_some, ok_hputM, putK0, pc, pb, pl, ppb, ppl, plen, ok_add, ok_addS, ok_addT, ok_addL, ok_sub, ok_mul, ok_ixL, ok_ixT, ok_unp, unpK_tup, ok_set0, ok_setC, ok_app, flK_nx, flK_ct, flK_bk, flK_rt, flK_ro, sl_L, sl_T, sl_S, it_L, it_T, wip, ok_div, ok_mod, ok_pow, ok_rep, ok_ord, ok_fInt, ok_fAbs, ok_fNeg, ok_lenL, ok_lenT, ok_lenS, ok_fListL, ok_fListT, ok_fTupleL, ok_fTupleT, ok_eqI, ok_eqB, ok_eqS,
  okF_ok, okF_exc, ok_runM, ok_appA, ok_len1, ok_chain, isNonB_non, isNonB_int, isNonB_bl, isNonB_str, isNonB_tup, isNonB_lst, isNonB_obj, ok_isN, ok_max, ok_min, isi_int_int, isi_int_bl, isi_int_non, isi_int_str, isi_int_tup, isi_int_lst, isi_bool_int, isi_bool_bl, isi_str_str, isi_str_int, isi_str_bl, isi_str_non, isi_str_tup, isi_str_lst, isi_tuple_tup, isi_tuple_int, isi_tuple_bl, isi_tuple_non, isi_tuple_str, isi_tuple_lst,
  ok_conM, ok_fputM, fputK_new, conV_new, ok_makeM, ok_methM, ok_insM, ok_raise,
  List.map_cons, List.map_nil, List.replicate_succ, List.replicate_zero, List.cons_append, List.nil_append, List.append_nil, List.getElem?_cons_zero, List.getElem?_cons_succ, List.set_cons_zero, List.set_cons_succ, Nat.reduceSub, decide_eq_true_eq, if_true, if_false, Bool.false_eq_true, Bool.not_true, Bool.not_false, beq_self_eq_true, Bool.true_eq_false, bne_self_eq_false, Bool.bne_true, Bool.bne_false, Nat.zero_add, Nat.reduceAdd, true_and, and_true, reduceCtorEq, List.length_cons, List.length_nil, row0, row1, row2, row3, row4, row5, row6, f_name, f_ends, f_rate, f_fee, f_least, o_result, o_call])
local macro_rules | `(tactic| walk_at "sx") => `(tactic| try simp only [ok_ret, ok_bnd, ok_bin, ok_var, varK_val, varK_own, pv_val, pv_own, ok_asB, asBK_bl, ok_andT, ok_orT, ok_notT, ok_iteT, ok_andV, ok_notV, blK_bl,
  ok_argN, ok_argC, ok_fits, ok_tupM, ok_lstM, ok_parN, ok_parS, intK_int, ok_slM, lstK_lst, ok_joinM, strK_str, ok_itemsM, ok_rngM, seqK_nx, seqK_rt, seqK_ro, seqK_bk, seqK_ct, ok_ifM, ok_retM, ok_slO, ok_dropM, ok_skipM, ok_asgM, ok_par2VO, ok_par3,
  ok_callM, rtK_rt, rtK_ro, rtK_nx, ok_loopM, ok_lcM, ok_dispM, ok_prsN, ok_prsC, ok_hget0, getK_some, ok_hputM, putK0, pc, pb, pl, ppb, ppl, plen, ok_add, ok_addS, ok_addT, ok_addL, ok_sub, ok_mul, ok_ixL, ok_ixT, ok_unp, unpK_tup, ok_set0, ok_setC, ok_app, flK_nx, flK_ct, flK_bk, flK_rt, flK_ro, sl_L, sl_T, sl_S, it_L, it_T, wip, ok_div, ok_mod, ok_pow, ok_rep, ok_ord, ok_fInt, ok_fAbs, ok_fNeg, ok_lenL, ok_lenT, ok_lenS, ok_fListL, ok_fListT, ok_fTupleL, ok_fTupleT, ok_eqI, ok_eqB, ok_eqS,
  okF_ok, okF_exc, ok_runM, ok_appA, ok_len1, ok_chain, isNonB_non, isNonB_int, isNonB_bl, isNonB_str, isNonB_tup, isNonB_lst, isNonB_obj, ok_isN, ok_max, ok_min, isi_int_int, isi_int_bl, isi_int_non, isi_int_str, isi_int_tup, isi_int_lst, isi_bool_int, isi_bool_bl, isi_str_str, isi_str_int, isi_str_bl, isi_str_non, isi_str_tup, isi_str_lst, isi_tuple_tup, isi_tuple_int, isi_tuple_bl, isi_tuple_non, isi_tuple_str, isi_tuple_lst,
  ok_conM, ok_fputM, fputK_new, conV_new, ok_makeM, ok_methM, ok_insM, ok_raise,
  List.map_cons, List.map_nil, List.replicate_succ, List.replicate_zero, List.cons_append, List.nil_append, List.append_nil, List.getElem?_cons_zero, List.getElem?_cons_succ, List.set_cons_zero, List.set_cons_succ, Nat.reduceSub, decide_eq_true_eq, if_true, if_false, Bool.false_eq_true, Bool.not_true, Bool.not_false, beq_self_eq_true, Bool.true_eq_false, bne_self_eq_false, Bool.bne_true, Bool.bne_false, Nat.zero_add, Nat.reduceAdd, true_and, and_true, reduceCtorEq, List.length_cons, List.length_nil, row0, row1, row2, row3, row4, row5, row6, f_name, f_ends, f_rate, f_fee, f_least, o_result, o_call])
local macro_rules | `(tactic| walk_at "sv") => `(tactic| repeat' first | exact True.intro | with_reducible rfl | omega | exact cdiv100 (by omega) (by omega) | exact cmul100 (by omega) (by omega) | (show L2.CPow _ _; decide +kernel) | apply And.intro)
theorem isNonB_mostV {o : OfV} : isNonB o.mostV = o.most.isNone := by
  unfold OfV.mostV
  cases o.most <;> rfl
set_option maxHeartbeats 4000000 in
theorem sp_amount {n : Nat} {B : Int} {cells : List Int} {g st : List MO} {o : OfV} {Q : PV → List MO → Prop} (hp : Pn cells B g st) (hB : B < 10000000) (ho : o.Wf)
    (h : ∀ (a : Int) st', 0 ≤ a → a ≤ 1000000000000000000000000000000 → Pn cells (B + 70) g st' → Q (.int a) st') : OkF (m_law_amount n [.hnd 0, o.row] st) Q := by
  have hz : sizeLine = 16777216 := sizeLine_eq
  have hl := ho.least
  unfold m_law_amount
  refine okF_fnF rfl ?_
  unfold b_law_amount
  have key : ∀ (near : Int) (B' : Int) (st' : List MO), 0 ≤ near → near ≤ 1000000 → Pn cells B' g st' → B' ≤ B + 1 → Okx (fun _ _ => False) (seqM (asgM 3 (lstM (fits (argC (Dn.ret (.int 0)) (argC (Dn.ret (.int 1)) (argC (var 2) (argC (var 2) (argC (Dn.bin (var 2) (Dn.ret (.int 1)) opAdd) (argC (Dn.bin (Dn.ret (.int 0)) (Dn.bin (var 2) (Dn.ret (.int 1)) opSub) opMax) (argC (Dn.bin (var 2) (callM m_law_draw n (argC (var 0) (argC (Dn.ret (.int 40)) argN))) opAdd) (argC (callM m_law_draw n (argC (var 0) (argC (Dn.ret (.int 100)) argN))) argN)))))))))))
    (seqM (asgM 3 (Dn.bin (var 3) (lstM (fits (argC (callM m_law_digits n (argC (var 0) (argC (Dn.ret (.int 6)) argN))) (argC (callM m_law_digits n (argC (var 0) (argC (Dn.ret (.int 30)) argN))) (argC (Dn.bin (Dn.ret (.int 10)) (Dn.ret (.int 30)) opPow) argN))))) opAdd))
    (retM (callM m_law_pick n (argC (var 0) (argC (var 3) argN)))))) ⟨[some (SV.val (.hnd 0)), some (SV.val o.row), some (SV.val (.int near)), none], st'⟩ (fun fl s => rtK Q s fl) := fun near B' st' hn0 hn1 hs hB' => by
    walk_at "st"
    refine sp_draw hs (by omega) (by omega) fun d1 st1 h0 h1 hs1 => ?_
    refine sp_draw hs1 (by omega) (by omega) fun d2 st2 h2 h3 hs2 => ?_
    refine ⟨by omega, ?_⟩
    refine sp_digits (k := 6) hs2 (by decide) (by omega) fun d3 st3 h4 h5 hs3 => ?_
    refine sp_digits (k := 30) hs3 (by decide) (by omega) fun d4 st4 h6 h7 hs4 => ?_
    walk_at "sv"
    refine sp_pickL hs4 (by simp) (by omega) fun v st5 hv hs5 => ?_
    have h5 : d3 < 1000000 := h5
    have h7 : d4 < 1000000000000000000000000000000 := h7
    obtain ⟨x, rfl, hx1, hx2⟩ : ∃ x : Int, v = .int x ∧ 0 ≤ x ∧ x ≤ 1000000000000000000000000000000 := by
      simp only [List.mem_cons, List.not_mem_nil, or_false, List.cons_append, List.nil_append] at hv
      rcases hv with rfl | rfl | rfl | rfl | rfl | rfl | rfl | rfl | rfl | rfl | rfl
      all_goals first
        | exact ⟨_, rfl, by omega, by omega⟩
        | exact ⟨_, rfl, by decide, by decide⟩
    exact h x st5 hx1 hx2 (hs5.mono (by omega))
  refine ok_seq ?_
  walk_at "sx"
  rw [isNonB_mostV]
  cases hm : o.most with
  | none =>
    walk_at "sx"
    simp only [Option.isNone_none, bne_self_eq_false, Bool.true_bne, Bool.not_false, if_true]
    exact key o.least B st (by omega) (by omega) hp (by omega)
  | some m =>
    have hm2 := ho.most m hm
    simp only [Option.isNone_some, bne_self_eq_false, Bool.false_eq_true, if_false]
    refine sp_draw hp (by omega) (by omega) fun d0 st0 h0 h1 hs0 => ?_
    walk_at "sx"
    rw [mostV_some hm]
    split
    · exact key o.least _ st0 (by omega) (by omega) hs0 (by omega)
    · exact key m _ st0 (by omega) (by omega) hs0 (by omega)
/-! ### how results grow -/
theorem ediv_mono {a b q : Int} (hq : 0 < q) (h : a ≤ b) : a / q ≤ b / q := Int.ediv_le_ediv hq h
theorem cap_le {o : OfV} {a : Int} : o.cap a ≤ a := by
  unfold OfV.cap
  cases o.most with
  | none => exact Int.le_refl _
  | some m => show min a m ≤ a; omega
theorem val_nonneg {o : OfV} {a : Int} : 0 ≤ o.val a := by unfold OfV.val; omega
theorem val_le {o : OfV} (h : o.Wf) {a : Int} (ha : 0 ≤ a) : o.val a ≤ 9 * a := by
  have hp := h.p
  have hq := h.q
  have hf := h.fee
  have h1 : o.cap a * o.p ≤ a * o.p := Int.mul_le_mul_of_nonneg_right cap_le (by omega)
  have h2 : a * o.p ≤ a * 9 := Int.mul_le_mul_of_nonneg_left hp.2 ha
  have h3 : o.cap a * o.p / o.q ≤ a * 9 / o.q := ediv_mono (by omega) (by omega)
  have h4 : a * 9 / o.q ≤ a * 9 := Int.ediv_le_self _ (by omega)
  unfold OfV.val
  omega
end Lw
/-! A7: values of any kind. -/
namespace Lw
open PySem Dn
open L2 hiding bin
local macro_rules | `(tactic| walk_at "st") => `(tactic| try simp only [ok_ret, ok_bnd, ok_bin, ok_var, varK_val, varK_own, pv_val, pv_own, ok_asB, asBK_bl, ok_andT, ok_orT, ok_notT, ok_iteT, ok_andV, ok_notV, blK_bl,
  ok_argN, ok_argC, ok_fits, ok_tupM, ok_lstM, ok_parN, ok_parS, intK_int, ok_slM, lstK_lst, ok_joinM, strK_str, ok_itemsM, ok_rngM, ok_seqM, seqK_nx, seqK_rt, seqK_ro, seqK_bk, seqK_ct, ok_ifM, ok_retM, ok_slO, ok_dropM, ok_skipM, ok_asgM, ok_par2VO, ok_par3,
  ok_callM, rtK_rt, rtK_ro, rtK_nx, ok_loopM, ok_lcM, ok_dispM, ok_prsN, ok_prsC, ok_hget0, getK_some, ok_hputM, putK0, pc, pb, pl, ppb, ppl, plen, ok_add, ok_addS, ok_addT, ok_addL, ok_sub, ok_mul, ok_ixL, ok_ixT, ok_unp, unpK_tup, ok_set0, ok_setC, ok_app, flK_nx, flK_ct, flK_bk, flK_rt, flK_ro, sl_L, sl_T, sl_S, it_L, it_T, wip, ok_div, ok_mod, ok_pow, ok_rep, ok_ord, ok_fInt, ok_fAbs, ok_fNeg, ok_lenL, ok_lenT, ok_lenS, ok_fListL, ok_fListT, ok_fTupleL, ok_fTupleT, ok_eqI, ok_eqB, ok_eqS,
  okF_ok, okF_exc, ok_runM, ok_appA, ok_len1, ok_chain, isNonB_non, isNonB_int, isNonB_bl, isNonB_str, isNonB_tup, isNonB_lst, isNonB_obj, ok_isN, ok_max, ok_min, isi_int_int, isi_int_bl, isi_int_non, isi_int_str, isi_int_tup, isi_int_lst, isi_bool_int, isi_bool_bl, isi_str_str, isi_str_int, isi_str_bl, isi_str_non, isi_str_tup, isi_str_lst, isi_tuple_tup, isi_tuple_int, isi_tuple_bl, isi_tuple_non, isi_tuple_str, isi_tuple_lst,
  ok_conM, ok_fputM, fputK_new, conV_new, ok_makeM, ok_methM, ok_insM, ok_raise,
  List.map_cons, List.map_nil, List.replicate_succ, List.replicate_zero, List.cons_append, List.nil_append, List.append_nil, List.getElem?_cons_zero, List.getElem?_cons_succ, List.set_cons_zero, List.set_cons_succ, Nat.reduceSub, decide_eq_true_eq, if_true, if_false, Bool.false_eq_true, Bool.not_true, Bool.not_false, beq_self_eq_true, Bool.true_eq_false, bne_self_eq_false, Bool.bne_true, Bool.bne_false, Nat.zero_add, Nat.reduceAdd, true_and, and_true, reduceCtorEq, List.length_cons, List.length_nil, isi_int_dic])
def inP (lo hi : Int) : PV → Bool
  | .int a => inB lo hi a
  | _ => false
theorem eq_is_integer_any {n : Nat} {v : PV} {lo hi : Int} {st : List MO} (h : AnyP v) : m_is_integer n [v, .int lo, .int hi] st = .ok (.bl (inP lo hi v)) st := by
  rcases h with ⟨a, rfl, _⟩ | ⟨h, _⟩
  · exact eq_is_integer
  · refine OkFx.eq ?_
    unfold m_is_integer
    refine okF_fnF rfl ?_
    unfold b_is_integer
    cases v <;> first | exact h.elim | (walk_at "st"; trivial) | walk_at "st"
theorem eq_law_is_integer_any {n : Nat} {v : PV} {lo hi : Int} {st : List MO} (h : AnyP v) : m_law_is_integer n [v, .int lo, .int hi] st = .ok (.bl (inP lo hi v)) st := by
  refine OkFx.eq ?_
  unfold m_law_is_integer
  refine okF_fnF rfl ?_
  unfold b_law_is_integer
  rcases h with ⟨a, rfl, _⟩ | ⟨h, _⟩
  · unfold inP inB
    walk_at "st"
    by_cases h : lo ≤ a <;> simp [h, rtK]
  · cases v <;> first | exact h.elim | (walk_at "st"; trivial) | walk_at "st"
abbrev numE (v : PV) : PV := .obj "InvalidNumber" ["value"] [v]
theorem eq_need_integer_any {n : Nat} {v : PV} {lo hi : Int} {st : List MO} (h : AnyP v) : m_need_integer n [v, .int lo, .int hi] st = if inP lo hi v then .ok .non st else .exc (numE v) st := by
  cases e : inP lo hi v with
  | true =>
    refine OkFx.eq ?_
    unfold m_need_integer
    refine okF_fnF rfl ?_
    unfold b_need_integer
    walk_at "st"
    rw [eq_is_integer_any h, e]
    walk_at "st"
  | false =>
    refine OkFx.eqx ?_
    unfold m_need_integer
    refine okF_fnF rfl ?_
    unfold b_need_integer
    walk_at "st"
    rw [eq_is_integer_any h, e]
    walk_at "st"
theorem r_int {a : Int} (h : -1000000000000000000000000000000000000000000 ≤ a ∧ a ≤ 1000000000000000000000000000000000000000000) : AnyP (.int a) := .inl ⟨a, rfl, h⟩
theorem r_non : AnyP .non := .inr ⟨trivial, rp_gd (n := 0) (w := 0) gd_non (by decide) (by decide)⟩
theorem r_bl {b : Bool} : AnyP (.bl b) := .inr ⟨trivial, rp_gd (n := 0) (w := 0) gd_bl (by decide) (by decide)⟩
theorem r_str {x : Str} (h : PyData.strOk x = true) (hx : x.length ≤ 1000) : AnyP (.str x) := .inr ⟨trivial, rp_gd (n := 0) (w := 1000) (gd_str h hx) (by decide) (by decide)⟩
theorem r_tup {vs : List PV} (h : ∀ v ∈ vs, Gd 0 40 v) (hl : vs.length ≤ 100) : AnyP (.tup vs) := .inr ⟨trivial, rp_gd (n := 1) (gd_tup h) (by decide) (by omega)⟩
theorem r_lst {vs : List PV} (h : ∀ v ∈ vs, Gd 0 40 v) (hl : vs.length ≤ 100) : AnyP (.lst vs) := .inr ⟨trivial, rp_gd (n := 1) (gd_lst h) (by decide) (by omega)⟩
theorem g_nil : ∀ v ∈ ([] : List PV), Gd 0 40 v := fun _ h => nomatch h
theorem g_cons {v : PV} {vs : List PV} (h : Gd 0 40 v) (t : ∀ v ∈ vs, Gd 0 40 v) : ∀ w ∈ v :: vs, Gd 0 40 w := fun w hw => by
  rcases List.mem_cons.mp hw with rfl | hw
  · exact h
  · exact t w hw
theorem r_d0 : AnyP (.dic []) := .inr ⟨trivial, rp_dic (by decide +kernel) (by decide +kernel) (by rw [sizeLine_eq]; decide +kernel)⟩
theorem r_d1 : AnyP (.dic [(Str.ofString "a", 1)]) := .inr ⟨trivial, rp_dic (by decide +kernel) (by decide +kernel) (by rw [sizeLine_eq]; decide +kernel)⟩
end Lw
/-! TX: values of any kind with short, clean texts. -/
namespace Lw
open PySem Dn
open L2 hiding bin
def tqL (v : PV) : Bool := match v with
  | .dic kvs => PyData.strOk (dicD kvs).shown && decide ((dicD kvs).shown.length ≤ 10000)
  | v => PyData.strOk (rp v) && decide ((rp v).length ≤ 10000)
theorem tqL_ok {v : PV} {t : Str} (h : tqL v = true) (e : reprP v = some (.str t)) : PyData.strOk t = true ∧ t.length ≤ 10000 := by
  have key : (∀ kvs, v ≠ .dic kvs) → reprP v = (match v.toD with | some d => if (d.showable = true ∧ d.hasDict = false) ∧ d.depth ≤ 64 ∧ d.shown.length ≤ sizeLine then some (.str d.shown) else none | none => none) := fun hv => by
    unfold reprP
    cases v <;> first | rfl | exact absurd rfl (hv _)
  have kq : (∀ kvs, v ≠ .dic kvs) → tqL v = (PyData.strOk (rp v) && decide ((rp v).length ≤ 10000)) := fun hv => by
    unfold tqL
    cases v <;> first | rfl | exact absurd rfl (hv _)
  by_cases hd : ∃ kvs, v = .dic kvs
  · obtain ⟨kvs, rfl⟩ := hd
    unfold reprP at e
    dsimp only at e
    split at e
    · cases e
      simpa [tqL] using h
    · cases e
  · have hv : ∀ kvs, v ≠ .dic kvs := fun kvs z => hd ⟨kvs, z⟩
    rw [key hv] at e
    rw [kq hv] at h
    unfold rp at h
    cases ed : v.toD with
    | none => rw [ed] at e; cases e
    | some d =>
      rw [ed] at e h
      dsimp only at e h
      split at e
      · cases e
        simpa using h
      · cases e
def sOkB : PV → Bool
  | .str y => PyData.strOk y
  | _ => true
structure AnyT (v : PV) : Prop where
  any : AnyP v
  txt : ∃ t, reprP v = some (.str t) ∧ PyData.strOk t = true ∧ t.length ≤ 10000
  str : sOkB v = true
theorem anyT {v : PV} (h : AnyP v) (h2 : (tqL v && sOkB v) = true) : AnyT v := by
  obtain ⟨t, e⟩ := h.rp
  rw [Bool.and_eq_true] at h2
  exact ⟨h, ⟨t, e, tqL_ok h2.1 e⟩, h2.2⟩
local macro_rules | `(tactic| walk_at "st") => `(tactic| try simp only [ok_ret, ok_bnd, ok_bin, ok_var, varK_val, varK_own, pv_val, pv_own, ok_asB, asBK_bl, ok_andT, ok_orT, ok_notT, ok_iteT, ok_andV, ok_notV, blK_bl,
  ok_argN, ok_argC, ok_fits, ok_tupM, ok_lstM, ok_parN, ok_parS, intK_int, ok_slM, lstK_lst, ok_joinM, strK_str, ok_itemsM, ok_rngM, ok_seqM, seqK_nx, seqK_rt, seqK_ro, seqK_bk, seqK_ct, ok_ifM, ok_retM, ok_slO, ok_dropM, ok_skipM, ok_asgM, ok_par2VO, ok_par3,
  ok_callM, rtK_rt, rtK_ro, rtK_nx, ok_loopM, ok_lcM, ok_dispM, ok_prsN, ok_prsC, ok_hget0, getK_some, ok_hputM, putK0, pc, pb, pl, ppb, ppl, plen, ok_add, ok_addS, ok_addT, ok_addL, ok_sub, ok_mul, ok_ixL, ok_ixT, ok_unp, unpK_tup, ok_set0, ok_setC, ok_app, flK_nx, flK_ct, flK_bk, flK_rt, flK_ro, sl_L, sl_T, sl_S, it_L, it_T, wip, ok_div, ok_mod, ok_pow, ok_rep, ok_ord, ok_fInt, ok_fAbs, ok_fNeg, ok_lenL, ok_lenT, ok_lenS, ok_fListL, ok_fListT, ok_fTupleL, ok_fTupleT, ok_eqI, ok_eqB, ok_eqS,
  okF_ok, okF_exc, ok_runM, ok_appA, ok_len1, ok_chain, isNonB_non, isNonB_int, isNonB_bl, isNonB_str, isNonB_tup, isNonB_lst, isNonB_obj, ok_isN, ok_max, ok_min, isi_int_int, isi_int_bl, isi_int_non, isi_int_str, isi_int_tup, isi_int_lst, isi_bool_int, isi_bool_bl, isi_str_str, isi_str_int, isi_str_bl, isi_str_non, isi_str_tup, isi_str_lst, isi_tuple_tup, isi_tuple_int, isi_tuple_bl, isi_tuple_non, isi_tuple_str, isi_tuple_lst,
  ok_conM, ok_fputM, fputK_new, conV_new, ok_makeM, ok_methM, ok_insM, ok_raise,
  List.map_cons, List.map_nil, List.replicate_succ, List.replicate_zero, List.cons_append, List.nil_append, List.append_nil, List.getElem?_cons_zero, List.getElem?_cons_succ, List.set_cons_zero, List.set_cons_succ, Nat.reduceSub, decide_eq_true_eq, if_true, if_false, Bool.false_eq_true, Bool.not_true, Bool.not_false, beq_self_eq_true, Bool.true_eq_false, bne_self_eq_false, Bool.bne_true, Bool.bne_false, Nat.zero_add, Nat.reduceAdd, true_and, and_true, reduceCtorEq, List.length_cons, List.length_nil, isi_int_dic])
local macro_rules | `(tactic| walk_at "sv") => `(tactic| repeat' first | exact True.intro | with_reducible rfl | omega | exact cdiv100 (by omega) (by omega) | exact cmul100 (by omega) (by omega) | (show L2.CPow _ _; decide +kernel) | apply And.intro)
local macro_rules | `(tactic| walk_at "go") => `(tactic| (walk_at "st"; walk_at "sv"))
set_option maxHeartbeats 8000000 in
theorem sp_anyT {n : Nat} {B : Int} {cells : List Int} {g st : List MO} {Q : PV → List MO → Prop} (hp : Pn cells B g st) (hB : B < 10000000)
    (h : ∀ (v : PV) st', AnyT v → Pn cells (B + 1) g st' → Q v st') : OkF (m_law_any n [.hnd 0] st) Q := by
  have hz : sizeLine = 16777216 := sizeLine_eq
  unfold m_law_any
  refine okF_fnF rfl ?_
  unfold b_law_any
  walk_at "go"
  refine sp_pickL hp (by simp) (by omega) fun v st1 hv hp1 => h v st1 (anyT ?_ ?_) hp1
  · simp only [List.mem_cons, List.not_mem_nil, or_false, List.cons_append, List.nil_append] at hv
    rcases hv with rfl | rfl | rfl | rfl | rfl | rfl | rfl | rfl | rfl | rfl | rfl | rfl | rfl | rfl | rfl | rfl | rfl | rfl | rfl | rfl | rfl | rfl | rfl | rfl | rfl | rfl | rfl | rfl | rfl | rfl | rfl | rfl | rfl | rfl | rfl | rfl | rfl | rfl | rfl | rfl
    all_goals first
      | exact r_non
      | exact r_bl
      | exact r_d0
      | exact r_d1
      | exact r_int (by decide)
      | exact r_str (by decide +kernel) (by decide +kernel)
      | exact r_tup (by repeat' first | exact g_nil | exact gd_bl | exact gd_int (by decide) | exact gd_str (by decide +kernel) (by decide +kernel) | apply g_cons) (by decide)
      | exact r_lst (by repeat' first | exact g_nil | exact gd_bl | exact gd_int (by decide) | exact gd_str (by decide +kernel) (by decide +kernel) | apply g_cons) (by decide)
  · simp only [List.mem_cons, List.not_mem_nil, or_false, List.cons_append, List.nil_append] at hv
    rcases hv with rfl | rfl | rfl | rfl | rfl | rfl | rfl | rfl | rfl | rfl | rfl | rfl | rfl | rfl | rfl | rfl | rfl | rfl | rfl | rfl | rfl | rfl | rfl | rfl | rfl | rfl | rfl | rfl | rfl | rfl | rfl | rfl | rfl | rfl | rfl | rfl | rfl | rfl | rfl | rfl
    all_goals decide +kernel
theorem rp_num {x t : Str} (hx : PyData.strOk x = true) (hl : x.length ≤ 100) (ht : PyData.strOk t = true) (h2 : t.length ≤ 10000) : Rp (.tup [.str x, .str t, .bl true]) := by
  refine rp_gd (n := 1) (w := 40000) ((gd_tup (n := 0) (w := 10000) fun v hv => ?_).mono (by decide) (by simp)) (by decide) (by decide)
  simp only [List.mem_cons, List.not_mem_nil, or_false] at hv
  rcases hv with rfl | rfl | rfl
  · exact gd_str hx (by omega)
  · exact gd_str ht (by omega)
  · exact gd_bl
end Lw
/-! A5o: is_open. -/
namespace Lw
open PySem Dn
open L2 hiding bin
local macro_rules | `(tactic| walk_at "st") => `(tactic| try simp only [ok_ret, ok_bnd, ok_bin, ok_var, varK_val, varK_own, pv_val, pv_own, ok_asB, asBK_bl, ok_andT, ok_orT, ok_notT, ok_iteT, ok_andV, ok_notV, blK_bl,
  ok_argN, ok_argC, ok_fits, ok_tupM, ok_lstM, ok_parN, ok_parS, intK_int, ok_slM, lstK_lst, ok_joinM, strK_str, ok_itemsM, ok_rngM, ok_seqM, seqK_nx, seqK_rt, seqK_ro, seqK_bk, seqK_ct, ok_ifM, ok_retM, ok_slO, ok_dropM, ok_skipM, ok_asgM, ok_par2VO, ok_par3,
  ok_callM, rtK_rt, rtK_ro, rtK_nx, ok_loopM, ok_lcM, ok_dispM, ok_prsN, ok_prsC, ok_hget0, getK_some, ok_hputM, putK0, pc, pb, pl, ppb, ppl, plen, ok_add, ok_addS, ok_addT, ok_addL, ok_sub, ok_mul, ok_ixL, ok_ixT, ok_unp, unpK_tup, ok_set0, ok_setC, ok_app, flK_nx, flK_ct, flK_bk, flK_rt, flK_ro, sl_L, sl_T, sl_S, it_L, it_T, wip, ok_div, ok_mod, ok_pow, ok_rep, ok_ord, ok_fInt, ok_fAbs, ok_fNeg, ok_lenL, ok_lenT, ok_lenS, ok_fListL, ok_fListT, ok_fTupleL, ok_fTupleT, ok_eqI, ok_eqB, ok_eqS,
  okF_ok, okF_exc, ok_runM, ok_appA, ok_len1, ok_chain, isNonB_non, isNonB_int, isNonB_bl, isNonB_str, isNonB_tup, isNonB_lst, isNonB_obj, ok_isN, ok_max, ok_min, isi_int_int, isi_int_bl, isi_int_non, isi_int_str, isi_int_tup, isi_int_lst, isi_bool_int, isi_bool_bl, isi_str_str, isi_str_int, isi_str_bl, isi_str_non, isi_str_tup, isi_str_lst, isi_tuple_tup, isi_tuple_int, isi_tuple_bl, isi_tuple_non, isi_tuple_str, isi_tuple_lst,
  ok_conM, ok_fputM, fputK_new, conV_new, ok_makeM, ok_methM, ok_insM, ok_raise,
  List.map_cons, List.map_nil, List.replicate_succ, List.replicate_zero, List.cons_append, List.nil_append, List.append_nil, List.getElem?_cons_zero, List.getElem?_cons_succ, List.set_cons_zero, List.set_cons_succ, Nat.reduceSub, decide_eq_true_eq, if_true, if_false, Bool.false_eq_true, Bool.not_true, Bool.not_false, beq_self_eq_true, Bool.true_eq_false, bne_self_eq_false, Bool.bne_true, Bool.bne_false, Nat.zero_add, Nat.reduceAdd, true_and, and_true, reduceCtorEq, List.length_cons, List.length_nil, row0, row1, row2, row3, row4, row5, row6, f_name, f_ends, f_rate, f_fee, f_least, o_result, o_call])
theorem eq_is_open {n : Nat} {o : OfV} {a : Int} {st : List MO} (ha : 0 ≤ a ∧ a ≤ 1000000000000000000000000000000) : m_Office_is_open n [o.pv, .int a] st = .ok (.bl (decide (o.least ≤ a))) st := by
  refine OkFx.eq ?_
  unfold m_Office_is_open
  refine okF_fnF rfl ?_
  unfold b_Office_is_open
  walk_at "st"
  rw [eq_need_amount ha]
  walk_at "st"
theorem o_is_open {n : Nat} {o : OfV} {ra : M (List PV)} : methD tm_is_open_2 n "is_open" ra o.pv = bnd ra fun ds => runM m_Office_is_open n (o.pv :: ds) := by
  cases hm : o.most with
  | none => rw [OfV.pv_none hm]; exact methD_obj rfl rfl
  | some m => rw [OfV.pv_some hm]; exact methD_obj rfl rfl
end Lw
/-! A8: the law's own results of offices. -/
namespace Lw
open PySem Dn
open L2 hiding bin
local macro_rules | `(tactic| walk_at "st") => `(tactic| try simp only [ok_ret, ok_bnd, ok_bin, ok_var, varK_val, varK_own, pv_val, pv_own, ok_asB, asBK_bl, ok_andT, ok_orT, ok_notT, ok_iteT, ok_andV, ok_notV, blK_bl,
  ok_argN, ok_argC, ok_fits, ok_tupM, ok_lstM, ok_parN, ok_parS, intK_int, ok_slM, lstK_lst, ok_joinM, strK_str, ok_itemsM, ok_rngM, ok_seqM, seqK_nx, seqK_rt, seqK_ro, seqK_bk, seqK_ct, ok_ifM, ok_retM, ok_slO, ok_dropM, ok_skipM, ok_asgM, ok_par2VO, ok_par3,
  ok_callM, rtK_rt, rtK_ro, rtK_nx, ok_loopM, ok_lcM, ok_dispM, ok_prsN, ok_prsC, ok_hget0, getK_some, ok_hputM, putK0, pc, pb, pl, ppb, ppl, plen, ok_add, ok_addS, ok_addT, ok_addL, ok_sub, ok_mul, ok_ixL, ok_ixT, ok_unp, unpK_tup, ok_set0, ok_setC, ok_app, flK_nx, flK_ct, flK_bk, flK_rt, flK_ro, sl_L, sl_T, sl_S, it_L, it_T, wip, ok_div, ok_mod, ok_pow, ok_rep, ok_ord, ok_fInt, ok_fAbs, ok_fNeg, ok_lenL, ok_lenT, ok_lenS, ok_fListL, ok_fListT, ok_fTupleL, ok_fTupleT, ok_eqI, ok_eqB, ok_eqS,
  okF_ok, okF_exc, ok_runM, ok_appA, ok_len1, ok_chain, isNonB_non, isNonB_int, isNonB_bl, isNonB_str, isNonB_tup, isNonB_lst, isNonB_obj, ok_isN, ok_max, ok_min, isi_int_int, isi_int_bl, isi_int_non, isi_int_str, isi_int_tup, isi_int_lst, isi_bool_int, isi_bool_bl, isi_str_str, isi_str_int, isi_str_bl, isi_str_non, isi_str_tup, isi_str_lst, isi_tuple_tup, isi_tuple_int, isi_tuple_bl, isi_tuple_non, isi_tuple_str, isi_tuple_lst,
  ok_conM, ok_fputM, fputK_new, conV_new, ok_makeM, ok_methM, ok_insM, ok_raise,
  List.map_cons, List.map_nil, List.replicate_succ, List.replicate_zero, List.cons_append, List.nil_append, List.append_nil, List.getElem?_cons_zero, List.getElem?_cons_succ, List.set_cons_zero, List.set_cons_succ, Nat.reduceSub, decide_eq_true_eq, if_true, if_false, Bool.false_eq_true, Bool.not_true, Bool.not_false, beq_self_eq_true, Bool.true_eq_false, bne_self_eq_false, Bool.bne_true, Bool.bne_false, Nat.zero_add, Nat.reduceAdd, true_and, and_true, reduceCtorEq, List.length_cons, List.length_nil, row0, row1, row2, row3, row4, row5, row6, ix20, ix21])
theorem isNonB_mostW {o : OfV} : isNonB o.mostV = o.most.isNone := by
  unfold OfV.mostV
  cases o.most <;> rfl
set_option maxHeartbeats 4000000 in
theorem eq_law_result {n : Nat} {o : OfV} {a : Int} {st : List MO} (h : o.Wf) (ha : Amz a) : m_law_result n [o.row, .int a] st = .ok (if a < o.least then .non else .int (o.val a)) st := by
  have hp := h.p
  have hq := h.q
  refine OkFx.eq ?_
  unfold m_law_result
  refine okF_fnF rfl ?_
  unfold b_law_result OfV.val OfV.cap
  walk_at "st"
  split
  · trivial
  · rw [isNonB_mostW]
    cases hm : o.most with
    | none =>
      walk_at "st"
      refine ⟨cmul120 ha (by omega), cdiv100 (by omega) (by omega), ?_⟩
      split <;> (congr 1; omega)
    | some m =>
      have hm2 := h.most m hm
      have hl := h.least
      have em : o.mostV = .int m := by unfold OfV.mostV; rw [hm]
      simp only [em]
      walk_at "st"
      rw [if_neg (by simp)]
      split
      · refine ⟨cmul120 ha (by omega), cdiv100 (by omega) (by omega), ?_⟩
        rw [show min a m = a by omega]
        split <;> (congr 1; omega)
      · rw [em]
        walk_at "st"
        refine ⟨cmul120 (by omega) (by omega), cdiv100 (by omega) (by omega), ?_⟩
        rw [show min a m = m by omega]
        split <;> (congr 1; omega)
end Lw
/-! B1w: the words of an office. -/
namespace Lw
open PySem Dn
open L2 hiding bin
theorem Lo.ok {w : Nat} {x : Str} (h : Lo w x) : PyData.strOk x = true := strOk_iff.mpr fun c hc => low_ok (h.low c hc)
/-! ### the words tell the office -/
end Lw
/-! B1: offices compared. -/
namespace Lw
open PySem Dn
open L2 hiding bin
/-! ### offices compared -/
def OfV.cls (o : OfV) : Str := match o.most with
  | none => "Office"
  | some _ => "CappedOffice"
end Lw
/-! B2: an office's row as the law writes it. -/
/-! A8v: the values that an office shows. -/
namespace Lw
open PySem Dn
open L2 hiding bin
local macro_rules | `(tactic| walk_at "st") => `(tactic| try simp only [ok_ret, ok_bnd, ok_bin, ok_var, varK_val, varK_own, pv_val, pv_own, ok_asB, asBK_bl, ok_andT, ok_orT, ok_notT, ok_iteT, ok_andV, ok_notV, blK_bl,
  ok_argN, ok_argC, ok_fits, ok_tupM, ok_lstM, ok_parN, ok_parS, intK_int, ok_slM, lstK_lst, ok_joinM, strK_str, ok_itemsM, ok_rngM, ok_seqM, seqK_nx, seqK_rt, seqK_ro, seqK_bk, seqK_ct, ok_ifM, ok_retM, ok_slO, ok_dropM, ok_skipM, ok_asgM, ok_par2VO, ok_par3,
  ok_callM, rtK_rt, rtK_ro, rtK_nx, ok_loopM, ok_lcM, ok_dispM, ok_prsN, ok_prsC, ok_hget0, getK_some, ok_hputM, putK0, pc, pb, pl, ppb, ppl, plen, ok_add, ok_addS, ok_addT, ok_addL, ok_sub, ok_mul, ok_ixL, ok_ixT, ok_unp, unpK_tup, ok_set0, ok_setC, ok_app, flK_nx, flK_ct, flK_bk, flK_rt, flK_ro, sl_L, sl_T, sl_S, it_L, it_T, wip, ok_div, ok_mod, ok_pow, ok_rep, ok_ord, ok_fInt, ok_fAbs, ok_fNeg, ok_lenL, ok_lenT, ok_lenS, ok_fListL, ok_fListT, ok_fTupleL, ok_fTupleT, ok_eqI, ok_eqB, ok_eqS,
  okF_ok, okF_exc, ok_runM, ok_appA, ok_len1, ok_chain, isNonB_non, isNonB_int, isNonB_bl, isNonB_str, isNonB_tup, isNonB_lst, isNonB_obj, ok_isN, ok_max, ok_min, isi_int_int, isi_int_bl, isi_int_non, isi_int_str, isi_int_tup, isi_int_lst, isi_bool_int, isi_bool_bl, isi_str_str, isi_str_int, isi_str_bl, isi_str_non, isi_str_tup, isi_str_lst, isi_tuple_tup, isi_tuple_int, isi_tuple_bl, isi_tuple_non, isi_tuple_str, isi_tuple_lst,
  ok_conM, ok_fputM, fputK_new, conV_new, ok_makeM, ok_methM, ok_insM, ok_raise,
  List.map_cons, List.map_nil, List.replicate_succ, List.replicate_zero, List.cons_append, List.nil_append, List.append_nil, List.getElem?_cons_zero, List.getElem?_cons_succ, List.set_cons_zero, List.set_cons_succ, Nat.reduceSub, decide_eq_true_eq, if_true, if_false, Bool.false_eq_true, Bool.not_true, Bool.not_false, beq_self_eq_true, Bool.true_eq_false, bne_self_eq_false, Bool.bne_true, Bool.bne_false, Nat.zero_add, Nat.reduceAdd, true_and, and_true, reduceCtorEq, List.length_cons, List.length_nil, row0, row1, row2, row3, row4, row5, row6, f_name, f_ends, f_rate, f_fee, f_least, ix20, ix21])
section
variable {n : Nat} {o : OfV} {st : List MO} {s : S} {E : PV → S → Prop} {Q : PV → S → Prop}
theorem eq_p_source : m_Office_source n [o.pv] st = .ok (.str o.src) st := by
  refine OkFx.eq ?_
  unfold m_Office_source
  refine okF_fnF rfl ?_
  unfold b_Office_source
  walk_at "st"
theorem eq_p_goal : m_Office_goal n [o.pv] st = .ok (.str o.dst) st := by
  refine OkFx.eq ?_
  unfold m_Office_goal
  refine okF_fnF rfl ?_
  unfold b_Office_goal
  walk_at "st"
theorem eq_p_rate : m_Office_rate n [o.pv] st = .ok (.tup [.int o.p, .int o.q]) st := by
  refine OkFx.eq ?_
  unfold m_Office_rate
  refine okF_fnF rfl ?_
  unfold b_Office_rate
  walk_at "st"
theorem eq_p_fee : m_Office_fee n [o.pv] st = .ok (.int o.fee) st := by
  refine OkFx.eq ?_
  unfold m_Office_fee
  refine okF_fnF rfl ?_
  unfold b_Office_fee
  walk_at "st"
theorem eq_p_least : m_Office_least n [o.pv] st = .ok (.int o.least) st := by
  refine OkFx.eq ?_
  unfold m_Office_least
  refine okF_fnF rfl ?_
  unfold b_Office_least
  walk_at "st"
theorem eq_p_most0 : m_Office_most n [o.pv] st = .ok .non st := by
  refine OkFx.eq ?_
  unfold m_Office_most
  refine okF_fnF rfl ?_
  unfold b_Office_most
  walk_at "st"
theorem eq_p_most1 {m : Int} (hm : o.most = some m) : m_CappedOffice_most n [o.pv] st = .ok (.int m) st := by
  refine OkFx.eq ?_
  unfold m_CappedOffice_most
  refine okF_fnF rfl ?_
  unfold b_CappedOffice_most
  walk_at "st"
  rw [f_most hm]
  trivial
theorem prp {tab : List (Str × Fn)} {m : Fn} {r : PV} (h0 : tab.lookup (Str.ofString "Office") = some m) (h1 : tab.lookup (Str.ofString "CappedOffice") = some m) (h : ∀ st, m n [o.pv] st = .ok r st) : Okx E (propM tab n o.pv) s Q ↔ Q r s := by
  cases hm : o.most with
  | none =>
    have h := h s.sto
    rw [OfV.pv_none hm] at h ⊢
    exact propM_obj h0 h
  | some k =>
    have h := h s.sto
    rw [OfV.pv_some hm] at h ⊢
    exact propM_obj h1 h
theorem p_source : Okx E (propM tp_source n o.pv) s Q ↔ Q (.str o.src) s := prp rfl rfl fun _ => eq_p_source
theorem p_goal : Okx E (propM tp_goal n o.pv) s Q ↔ Q (.str o.dst) s := prp rfl rfl fun _ => eq_p_goal
theorem p_rate : Okx E (propM tp_rate n o.pv) s Q ↔ Q (.tup [.int o.p, .int o.q]) s := prp rfl rfl fun _ => eq_p_rate
theorem p_fee : Okx E (propM tp_fee n o.pv) s Q ↔ Q (.int o.fee) s := prp rfl rfl fun _ => eq_p_fee
theorem p_least : Okx E (propM tp_least n o.pv) s Q ↔ Q (.int o.least) s := prp rfl rfl fun _ => eq_p_least
theorem p_most : Okx E (propM tp_most n o.pv) s Q ↔ Q o.mostV s := by
  cases hm : o.most with
  | none =>
    have h := eq_p_most0 (n := n) (o := o) (st := s.sto)
    rw [mostV_none hm]
    rw [OfV.pv_none hm] at h ⊢
    exact propM_obj rfl h
  | some k =>
    have h := eq_p_most1 (n := n) (o := o) (st := s.sto) hm
    rw [mostV_some hm]
    rw [OfV.pv_some hm] at h ⊢
    exact propM_obj rfl h
theorem iso_cap : isoB [("Office", false), ("CappedOffice", true)] s o.pv = some o.most.isSome := by
  cases hm : o.most with
  | none => rw [OfV.pv_none hm]; rfl
  | some m => rw [OfV.pv_some hm]; rfl
end
local macro_rules | `(tactic| walk_at "st") => `(tactic| try simp only [ok_ret, ok_bnd, ok_bin, ok_var, varK_val, varK_own, pv_val, pv_own, ok_asB, asBK_bl, ok_andT, ok_orT, ok_notT, ok_iteT, ok_andV, ok_notV, blK_bl,
  ok_argN, ok_argC, ok_fits, ok_tupM, ok_lstM, ok_parN, ok_parS, intK_int, ok_slM, lstK_lst, ok_joinM, strK_str, ok_itemsM, ok_rngM, ok_seqM, seqK_nx, seqK_rt, seqK_ro, seqK_bk, seqK_ct, ok_ifM, ok_retM, ok_slO, ok_dropM, ok_skipM, ok_asgM, ok_par2VO, ok_par3,
  ok_callM, rtK_rt, rtK_ro, rtK_nx, ok_loopM, ok_lcM, ok_dispM, ok_prsN, ok_prsC, ok_hget0, getK_some, ok_hputM, putK0, pc, pb, pl, ppb, ppl, plen, ok_add, ok_addS, ok_addT, ok_addL, ok_sub, ok_mul, ok_ixL, ok_ixT, ok_unp, unpK_tup, ok_set0, ok_setC, ok_app, flK_nx, flK_ct, flK_bk, flK_rt, flK_ro, sl_L, sl_T, sl_S, it_L, it_T, wip, ok_div, ok_mod, ok_pow, ok_rep, ok_ord, ok_fInt, ok_fAbs, ok_fNeg, ok_lenL, ok_lenT, ok_lenS, ok_fListL, ok_fListT, ok_fTupleL, ok_fTupleT, ok_eqI, ok_eqB, ok_eqS,
  okF_ok, okF_exc, ok_runM, ok_appA, ok_len1, ok_chain, isNonB_non, isNonB_int, isNonB_bl, isNonB_str, isNonB_tup, isNonB_lst, isNonB_obj, ok_isN, ok_max, ok_min, isi_int_int, isi_int_bl, isi_int_non, isi_int_str, isi_int_tup, isi_int_lst, isi_bool_int, isi_bool_bl, isi_str_str, isi_str_int, isi_str_bl, isi_str_non, isi_str_tup, isi_str_lst, isi_tuple_tup, isi_tuple_int, isi_tuple_bl, isi_tuple_non, isi_tuple_str, isi_tuple_lst,
  ok_conM, ok_fputM, fputK_new, conV_new, ok_makeM, ok_methM, ok_insM, ok_raise,
  List.map_cons, List.map_nil, List.replicate_succ, List.replicate_zero, List.cons_append, List.nil_append, List.append_nil, List.getElem?_cons_zero, List.getElem?_cons_succ, List.set_cons_zero, List.set_cons_succ, Nat.reduceSub, decide_eq_true_eq, if_true, if_false, Bool.false_eq_true, Bool.not_true, Bool.not_false, beq_self_eq_true, Bool.true_eq_false, bne_self_eq_false, Bool.bne_true, Bool.bne_false, Nat.zero_add, Nat.reduceAdd, true_and, and_true, reduceCtorEq, List.length_cons, List.length_nil, row0, row1, row2, row3, row4, row5, row6, f_name, f_ends, f_rate, f_fee, f_least, ix20, ix21, p_source, p_goal, p_rate, p_fee, p_least, p_most])
theorem eq_law_values {n : Nat} {o : OfV} {st : List MO} : m_law_values n [o.pv] st = .ok (.tup [.bl o.most.isSome, o.row]) st := by
  have hz : sizeLine = 16777216 := sizeLine_eq
  refine OkFx.eq ?_
  unfold m_law_values
  refine okF_fnF rfl ?_
  unfold b_law_values
  walk_at "st"
  refine ⟨by omega, ?_⟩
  rw [ok_iso]
  refine ⟨_, iso_cap, ?_⟩
  walk_at "st"
  refine ⟨by omega, ?_⟩
  rfl
/-- the row's text -/
theorem gd_row {o : OfV} (h : o.Wf) : Gd 2 1000 o.row := by
  have hp := h.p
  have hq := h.q
  have hf := h.fee
  have hl := h.least
  have gi : ∀ {a : Int}, 0 ≤ a → a ≤ 1000000 → Gd 1 82 (.int a) := fun h0 h1 => (gd_int (n := 1) (Nat.lt_of_le_of_lt (show _ ≤ 1000000 by omega) (by decide))).mono (by decide) (by decide)
  have gs : ∀ {x : Str}, Nm x → Gd 1 82 (.str x) := fun hx => gd_str (Lo.ok (w := 8) ⟨hx.le, hx.low⟩) (by have := hx.le; omega)
  refine (gd_tup (n := 1) (w := 82) fun v hv => ?_).mono (by decide) (by simp)
  simp only [List.mem_cons, List.not_mem_nil, or_false] at hv
  rcases hv with rfl | rfl | rfl | rfl | rfl | rfl | rfl
  · exact gs h.nm
  · exact gs h.src
  · exact gs h.dst
  · refine (gd_tup (n := 0) (w := 40) fun v hv => ?_).mono (by decide) (by simp)
    simp only [List.mem_cons, List.not_mem_nil, or_false] at hv
    rcases hv with rfl | rfl <;> exact gd_int (by omega)
  · exact gi (by omega) (by omega)
  · exact gi (by omega) (by omega)
  · unfold OfV.mostV
    cases hm : o.most with
    | none => exact gd_non
    | some m =>
      have := h.most m hm
      exact gi (by omega) (by omega)
theorem rp_values {o : OfV} (h : o.Wf) {b : Bool} : Rp (.tup [.bl b, o.row]) := by
  refine rp_gd (n := 3) (gd_tup (n := 2) (w := 1000) fun v hv => ?_) (by decide) (by simp)
  simp only [List.mem_cons, List.not_mem_nil, or_false] at hv
  rcases hv with rfl | rfl
  · exact gd_bl
  · exact gd_row h
end Lw
/-! GB: values with greater integers (below 10^60): their texts. -/
namespace Dn
open PySem
structure GbD (n w : Nat) (d : PyData) : Prop where
  lay : d.canLay0 = true
  show' : d.showable = true
  short : d.intsShort 64 = true
  dep : d.depth ≤ n
  wt : d.weight ≤ w
structure GbA (n w : Nat) (ds : List PyData) : Prop where
  lay : PyData.canLayAll0 ds = true
  show' : PyData.showableAll ds = true
  short : PyData.intsShortAll 64 ds = true
  dep : PyData.depthAll ds ≤ n
  wt : PyData.weightAll ds ≤ w
def Gb (n w : Nat) (v : PV) : Prop := ∃ d, v.toD = some d ∧ GbD n w d
theorem Gb.mono {n w n' w' : Nat} {v : PV} (h : Gb n w v) (hn : n ≤ n') (hw : w ≤ w') : Gb n' w' v := by
  obtain ⟨d, e, g⟩ := h
  exact ⟨d, e, ⟨g.lay, g.show', g.short, Nat.le_trans g.dep hn, Nat.le_trans g.wt hw⟩⟩
theorem gbAll {n w : Nat} : ∀ {vs : List PV}, (∀ v ∈ vs, Gb n w v) → ∃ ds, PV.toDs vs = some ds ∧ GbA n (vs.length * (w + 1)) ds
  | [], _ => ⟨[], by rw [PV.toDs], ⟨rfl, rfl, rfl, Nat.zero_le _, Nat.zero_le _⟩⟩
  | v :: vs, h => by
    obtain ⟨d, e, g⟩ := h v List.mem_cons_self
    obtain ⟨ds, es, gs⟩ := gbAll fun z hz => h z (List.mem_cons_of_mem _ hz)
    refine ⟨d :: ds, by rw [PV.toDs, e, es], ⟨?_, ?_, ?_, ?_, ?_⟩⟩
    · rw [PyData.canLayAll0, g.lay, gs.lay]; rfl
    · rw [PyData.showableAll, g.show', gs.show']; rfl
    · rw [PyData.intsShortAll, g.short, gs.short]; rfl
    · rw [PyData.depthAll]; exact Nat.max_le.mpr ⟨g.dep, gs.dep⟩
    · rw [PyData.weightAll, List.length_cons, Nat.add_mul]
      have h1 := g.wt
      have h2 := gs.wt
      omega
theorem gb_tup {n w : Nat} {vs : List PV} (h : ∀ v ∈ vs, Gb n w v) : Gb (n + 1) (vs.length * (w + 1)) (.tup vs) := by
  obtain ⟨ds, e, g⟩ := gbAll h
  refine ⟨.tuple ds, by rw [PV.toD, e]; rfl, ⟨?_, ?_, ?_, ?_, ?_⟩⟩
  · rw [PyData.canLay0]; exact g.lay
  · rw [PyData.showable]; exact g.show'
  · rw [PyData.intsShort]; exact g.short
  · rw [PyData.depth]; have := g.dep; omega
  · rw [PyData.weight]; exact g.wt
theorem gb_tup2 {n w : Nat} {x y : PV} (h : Gb n w x) (h' : Gb n w y) : Gb (n + 1) (2 * (w + 1)) (.tup [x, y]) := gb_tup fun v hv => by
  simp only [List.mem_cons, List.not_mem_nil, or_false] at hv
  rcases hv with rfl | rfl
  · exact h
  · exact h'
theorem gb_str {n w : Nat} {x : Str} (h : PyData.strOk x = true) (hw : x.length ≤ w) : Gb n w (.str x) := by
  refine ⟨.str x, by rw [PV.toD], ⟨by rw [PyData.canLay0]; exact h, by rw [PyData.showable], by rw [PyData.intsShort], by rw [PyData.depth]; exact Nat.zero_le _, by rw [PyData.weight]; exact hw⟩⟩
theorem gb_int {n w : Nat} {k : Int} (h : k.natAbs < 10 ^ 60) (hw : 250 ≤ w) : Gb n w (.int k) := by
  have hl : k.natAbs.log2 < 200 := log_lt (Nat.lt_trans h (by decide)) (by decide)
  refine ⟨.int k, by rw [PV.toD], ⟨by rw [PyData.canLay0], ?_, ?_, by rw [PyData.depth]; exact Nat.zero_le _, ?_⟩⟩
  · rw [PyData.showable, decide_eq_true_eq]; omega
  · rw [PyData.intsShort, decide_eq_true_eq]
    show (Str.ofString (toString k)).length ≤ 64
    rw [PySem.ofString_length]
    exact Nat.le_trans (PySem.int_text_length_le10 (a := k) (k := 60) (by decide) h) (by decide)
  · rw [PyData.weight]
    split <;> omega
/-- every leaf of a list is a leaf: any value that the law shows -/
theorem ok_reprB {n w : Nat} {v : PV} {s : S} {E : PV → S → Prop} {Q : PV → S → Prop} (h : Gb n w v) (hn : n ≤ 60) (hw : w ≤ 250000) : Okx E (lft (reprP v)) s Q ↔ Q (.str (rp v)) s := by
  obtain ⟨d, e, g⟩ := h
  have e2 : rp v = d.shown := by unfold rp; rw [e]
  rw [e2]
  refine ok_reprD e g.show' (PyData.hasDict_of_canLay d g.lay) (Nat.le_trans g.dep (by omega)) ?_
  have h1 := PyData.shown_le 64 (by decide) d (PyData.leavesShort_of_canLay0 64 d g.lay g.short)
  have h2 := g.wt
  rw [sizeLine_eq]
  omega
theorem keep_to {tab : List (Str × Bool)} {i j : Nat} {E : PV → S → Prop} {Q : Fl → S → Prop} {c : Str} {ks : List Str} {vs : List PV} {s : S} (h : tab.lookup c = some true) : keepK tab i j E Q (.obj c ks vs) s ↔ (i < s.env.length ∧ j < s.env.length) ∧ Q .nx { s with env := (s.env.set j (some (.val (.exn c ks vs)))).set i none } := by
  unfold keepK
  dsimp only
  rw [h]
end Dn
/-! An: amounts of any kind refused. -/
namespace Lw
open PySem Dn
open L2 hiding bin
local macro_rules | `(tactic| walk_at "st") => `(tactic| try simp only [ok_ret, ok_bnd, ok_bin, ok_var, varK_val, varK_own, pv_val, pv_own, ok_asB, asBK_bl, ok_andT, ok_orT, ok_notT, ok_iteT, ok_andV, ok_notV, blK_bl,
  ok_argN, ok_argC, ok_fits, ok_tupM, ok_lstM, ok_parN, ok_parS, intK_int, ok_slM, lstK_lst, ok_joinM, strK_str, ok_itemsM, ok_rngM, ok_seqM, seqK_nx, seqK_rt, seqK_ro, seqK_bk, seqK_ct, ok_ifM, ok_retM, ok_slO, ok_dropM, ok_skipM, ok_asgM, ok_par2VO, ok_par3,
  ok_callM, rtK_rt, rtK_ro, rtK_nx, ok_loopM, ok_lcM, ok_dispM, ok_prsN, ok_prsC, ok_hget0, getK_some, ok_hputM, putK0, pc, pb, pl, ppb, ppl, plen, ok_add, ok_addS, ok_addT, ok_addL, ok_sub, ok_mul, ok_ixL, ok_ixT, ok_unp, unpK_tup, ok_set0, ok_setC, ok_app, flK_nx, flK_ct, flK_bk, flK_rt, flK_ro, sl_L, sl_T, sl_S, it_L, it_T, wip, ok_div, ok_mod, ok_pow, ok_rep, ok_ord, ok_fInt, ok_fAbs, ok_fNeg, ok_lenL, ok_lenT, ok_lenS, ok_fListL, ok_fListT, ok_fTupleL, ok_fTupleT, ok_eqI, ok_eqB, ok_eqS,
  okF_ok, okF_exc, ok_runM, ok_appA, ok_len1, ok_chain, isNonB_non, isNonB_int, isNonB_bl, isNonB_str, isNonB_tup, isNonB_lst, isNonB_obj, ok_isN, ok_max, ok_min, isi_int_int, isi_int_bl, isi_int_non, isi_int_str, isi_int_tup, isi_int_lst, isi_bool_int, isi_bool_bl, isi_str_str, isi_str_int, isi_str_bl, isi_str_non, isi_str_tup, isi_str_lst, isi_tuple_tup, isi_tuple_int, isi_tuple_bl, isi_tuple_non, isi_tuple_str, isi_tuple_lst,
  ok_conM, ok_fputM, fputK_new, conV_new, ok_makeM, ok_methM, ok_insM, ok_raise,
  List.map_cons, List.map_nil, List.replicate_succ, List.replicate_zero, List.cons_append, List.nil_append, List.append_nil, List.getElem?_cons_zero, List.getElem?_cons_succ, List.set_cons_zero, List.set_cons_succ, Nat.reduceSub, decide_eq_true_eq, if_true, if_false, Bool.false_eq_true, Bool.not_true, Bool.not_false, beq_self_eq_true, Bool.true_eq_false, bne_self_eq_false, Bool.bne_true, Bool.bne_false, Nat.zero_add, Nat.reduceAdd, true_and, and_true, reduceCtorEq, List.length_cons, List.length_nil, isi_int_dic])
theorem eq_need_amount_any {n : Nat} {v : PV} {st : List MO} (h : AnyP v) : m_need_amount n [v] st = if inP 0 1000000000000000000000000000000 v then .ok .non st else .exc (numE v) st := by
  cases e : inP 0 1000000000000000000000000000000 v with
  | true =>
    refine OkFx.eq ?_
    unfold m_need_amount
    refine okF_fnF rfl ?_
    unfold b_need_amount
    walk_at "st"
    rw [eq_need_integer_any h, e]
    walk_at "st"
  | false =>
    refine OkFx.eqx ?_
    unfold m_need_amount
    refine okF_fnF rfl ?_
    unfold b_need_amount
    walk_at "st"
    rw [eq_need_integer_any h, e]
    walk_at "st"
theorem inP_int {lo hi : Int} {v : PV} (h : inP lo hi v = true) : ∃ a, v = .int a ∧ lo ≤ a ∧ a ≤ hi := by
  cases v with
  | int a =>
    refine ⟨a, rfl, ?_⟩
    have h : inB lo hi a = true := h
    unfold inB at h
    simpa using h
  | _ => exact absurd h Bool.false_ne_true
end Lw
/-! RB: values with great integers have texts. -/
namespace Lw
open PySem Dn
open L2 hiding bin
theorem rp_gb {n w : Nat} {v : PV} (h : Gb n w v) (hn : n ≤ 60) (hw : w ≤ 250000) : Rp v := by
  have k := (ok_reprB (s := ⟨[], []⟩) (E := fun _ _ => False) (Q := fun w _ => ∃ t, w = .str t) h hn hw).mpr ⟨_, rfl⟩
  obtain ⟨w, e, x, rfl⟩ := ok_lft.mp k
  exact ⟨x, e⟩
end Lw
/-! K02p: results of offices; law k02. -/
namespace Lw
open PySem Dn
open L2 hiding bin
local macro_rules | `(tactic| walk_at "sx") => `(tactic| try simp only [ok_ret, ok_bnd, ok_bin, ok_var, varK_val, varK_own, pv_val, pv_own, ok_asB, asBK_bl, ok_andT, ok_orT, ok_notT, ok_iteT, ok_andV, ok_notV, blK_bl,
  ok_argN, ok_argC, ok_fits, ok_tupM, ok_lstM, ok_parN, ok_parS, intK_int, ok_slM, lstK_lst, ok_joinM, strK_str, ok_itemsM, ok_rngM, seqK_nx, seqK_rt, seqK_ro, seqK_bk, seqK_ct, ok_ifM, ok_retM, ok_slO, ok_dropM, ok_skipM, ok_asgM, ok_par2VO, ok_par3,
  ok_callM, rtK_rt, rtK_ro, rtK_nx, ok_loopM, ok_lcM, ok_dispM, ok_prsN, ok_prsC, ok_hget0, getK_some, ok_hputM, putK0, pc, pb, pl, ppb, ppl, plen, ok_add, ok_addS, ok_addT, ok_addL, ok_sub, ok_mul, ok_ixL, ok_ixT, ok_unp, unpK_tup, ok_set0, ok_setC, ok_app, flK_nx, flK_ct, flK_bk, flK_rt, flK_ro, sl_L, sl_T, sl_S, it_L, it_T, wip, ok_div, ok_mod, ok_pow, ok_rep, ok_ord, ok_fInt, ok_fAbs, ok_fNeg, ok_lenL, ok_lenT, ok_lenS, ok_fListL, ok_fListT, ok_fTupleL, ok_fTupleT, ok_eqI, ok_eqB, ok_eqS,
  okF_ok, okF_exc, ok_runM, ok_appA, ok_len1, ok_chain, isNonB_non, isNonB_int, isNonB_bl, isNonB_str, isNonB_tup, isNonB_lst, isNonB_obj, ok_isN, ok_max, ok_min, isi_int_int, isi_int_bl, isi_int_non, isi_int_str, isi_int_tup, isi_int_lst, isi_bool_int, isi_bool_bl, isi_str_str, isi_str_int, isi_str_bl, isi_str_non, isi_str_tup, isi_str_lst, isi_tuple_tup, isi_tuple_int, isi_tuple_bl, isi_tuple_non, isi_tuple_str, isi_tuple_lst,
  ok_conM, ok_fputM, fputK_new, conV_new, ok_makeM, ok_methM, ok_insM, ok_raise,
  List.map_cons, List.map_nil, List.replicate_succ, List.replicate_zero, List.cons_append, List.nil_append, List.append_nil, List.getElem?_cons_zero, List.getElem?_cons_succ, List.set_cons_zero, List.set_cons_succ, Nat.reduceSub, decide_eq_true_eq, if_true, if_false, Bool.false_eq_true, Bool.not_true, Bool.not_false, beq_self_eq_true, Bool.true_eq_false, bne_self_eq_false, Bool.bne_true, Bool.bne_false, Nat.zero_add, Nat.reduceAdd, true_and, and_true, reduceCtorEq, List.length_cons, List.length_nil, row0, row1, row2, row3, row4, row5, row6, ok_keep, isNonB_exn, ok_lamM])
/-- what is told of a call -/
theorem told_ok {n : Nat} {φ : Clo} {d : PV} {st st2 : List MO} (h : φ.m n φ.ds st = .ok d st2) : m_law_told φ n [φ.tok] st = .ok (.tup [.str "told", d]) st2 := by
  have hz : sizeLine = 16777216 := sizeLine_eq
  refine OkFx.eq ?_
  unfold m_law_told
  refine okF_fnF rfl ?_
  unfold b_law_told
  refine ok_seq ?_
  walk_at "sx"
  refine ok_seq ?_
  walk_at "sx"
  rw [ok_callF0 rfl, h]
  walk_at "sx"
  omega
theorem told_closed {n : Nat} {φ : Clo} {o : OfV} {st st2 : List MO} (h : φ.m n φ.ds st = .exc (closedE o) st2) : m_law_told φ n [φ.tok] st = .ok (.tup [.str "closed", .str o.nm, .bl true]) st2 := by
  have hz : sizeLine = 16777216 := sizeLine_eq
  refine OkFx.eq ?_
  unfold m_law_told
  refine okF_fnF rfl ?_
  unfold b_law_told
  refine ok_seq ?_
  walk_at "sx"
  refine ok_seq ?_
  walk_at "sx"
  rw [ok_callF0 rfl, h]
  walk_at "sx"
  rw [keep_to rfl]
  refine ⟨⟨by simp, by simp⟩, ?_⟩
  walk_at "sx"
  refine ok_seq ?_
  walk_at "sx"
  rw [ok_ixE (b := true) rfl]
  walk_at "sx"
  refine ok_seq ?_
  walk_at "sx"
  rw [ok_ixE (b := true) rfl]
  walk_at "sx"
  rw [ok_ixE (b := false) rfl]
  walk_at "sx"
  rw [ok_xfld (w := .str o.nm) (by simp) rfl]
  walk_at "sx"
  omega
theorem told_num {n : Nat} {φ : Clo} {v : PV} {t : Str} {st st2 : List MO} (h : φ.m n φ.ds st = .exc (numE v) st2) (ht : reprP v = some (.str t)) : m_law_told φ n [φ.tok] st = .ok (.tup [.str "number", .str t, .bl true]) st2 := by
  have hz : sizeLine = 16777216 := sizeLine_eq
  refine OkFx.eq ?_
  unfold m_law_told
  refine okF_fnF rfl ?_
  unfold b_law_told
  refine ok_seq ?_
  walk_at "sx"
  refine ok_seq ?_
  walk_at "sx"
  rw [ok_callF0 rfl, h]
  walk_at "sx"
  rw [keep_to rfl]
  refine ⟨⟨by simp, by simp⟩, ?_⟩
  walk_at "sx"
  refine ok_seq ?_
  walk_at "sx"
  rw [ok_ixE (b := false) rfl]
  walk_at "sx"
  rw [ok_xfld (w := v) (by simp) rfl]
  walk_at "sx"
  rw [ok_reprR ht]
  walk_at "sx"
  rw [ok_ixE (b := true) rfl]
  walk_at "sx"
  omega
/-- the due of a value -/
def dueV (o : OfV) (a : Int) : PV := if a < o.least then .tup [.str "closed", .str o.nm, .bl true] else .tup [.str "told", .int (o.val a)]
theorem eq_due {n : Nat} {o : OfV} {a : Int} {st : List MO} (ho : o.Wf) (ha : 0 ≤ a ∧ a ≤ 1000000000000000000000000000000) : m_law_due n [o.row, .int a] st = .ok (dueV o a) st := by
  have hz : sizeLine = 16777216 := sizeLine_eq
  have e30 : (10 : Int) ^ (30 : Int).toNat = 1000000000000000000000000000000 := by decide
  refine OkFx.eq ?_
  unfold m_law_due
  refine okF_fnF rfl ?_
  unfold b_law_due
  refine ok_seq ?_
  walk_at "sx"
  refine ⟨by decide +kernel, ?_⟩
  rw [eq_law_is_integer_any (r_int (by omega)), e30, show inP 0 1000000000000000000000000000000 (.int a) = true by unfold inP inB; simp; omega]
  walk_at "sx"
  refine ok_seq ?_
  walk_at "sx"
  rw [eq_law_result ho ⟨by omega, by omega⟩]
  unfold dueV
  by_cases h : a < o.least
  · rw [if_pos h, if_pos h]
    walk_at "sx"
    omega
  · rw [if_neg h, if_neg h]
    walk_at "sx"
    omega
theorem eq_due_no {n : Nat} {o : OfV} {v : PV} {t : Str} {st : List MO} (hv : AnyP v) (hin : inP 0 1000000000000000000000000000000 v = false) (ht : reprP v = some (.str t)) : m_law_due n [o.row, v] st = .ok (.tup [.str "number", .str t, .bl true]) st := by
  have hz : sizeLine = 16777216 := sizeLine_eq
  have e30 : (10 : Int) ^ (30 : Int).toNat = 1000000000000000000000000000000 := by decide
  refine OkFx.eq ?_
  unfold m_law_due
  refine okF_fnF rfl ?_
  unfold b_law_due
  refine ok_seq ?_
  walk_at "sx"
  refine ⟨by decide +kernel, ?_⟩
  rw [eq_law_is_integer_any hv, e30, hin]
  walk_at "sx"
  rw [ok_reprR ht]
  walk_at "sx"
  omega
theorem rp_due {o : OfV} {a : Int} (ho : o.Wf) (ha : 0 ≤ a ∧ a ≤ 1000000000000000000000000000000) : Rp (dueV o a) := by
  have e1 := val_nonneg (o := o) (a := a)
  have e2 := val_le ho ha.1
  have e3 := ho.nm.le
  unfold dueV
  split
  · exact rp_num (by decide +kernel) (by decide +kernel) ho.nm.sOk.1 (by omega)
  · refine rp_gb (n := 1) (w := 2 * (400 + 1)) (gb_tup2 (n := 0) (w := 400) (gb_str (by decide +kernel) (by decide +kernel)) (gb_int ?_ (by decide))) (by decide) (by decide)
    have : (o.val a).natAbs ≤ 9000000000000000000000000000000 := by omega
    exact Nat.lt_of_le_of_lt this (by decide)
theorem rp_tb {b : Bool} : Rp (.tup [.str "told", .bl b]) := rp_gd (n := 1) (w := 1000) ((gd_tup (n := 0) (w := 40) fun v hv => by
  simp only [List.mem_cons, List.not_mem_nil, or_false] at hv
  rcases hv with rfl | rfl
  · exact gd_str (by decide +kernel) (by decide +kernel)
  · exact gd_bl).mono (by decide) (by simp)) (by decide) (by decide)
local macro_rules | `(tactic| walk_at "sx") => `(tactic| try simp only [ok_ret, ok_bnd, ok_bin, ok_var, varK_val, varK_own, pv_val, pv_own, ok_asB, asBK_bl, ok_andT, ok_orT, ok_notT, ok_iteT, ok_andV, ok_notV, blK_bl,
  ok_argN, ok_argC, ok_fits, ok_tupM, ok_lstM, ok_parN, ok_parS, intK_int, ok_slM, lstK_lst, ok_joinM, strK_str, ok_itemsM, ok_rngM, seqK_nx, seqK_rt, seqK_ro, seqK_bk, seqK_ct, ok_ifM, ok_retM, ok_slO, ok_dropM, ok_skipM, ok_asgM, ok_par2VO, ok_par3,
  ok_callM, rtK_rt, rtK_ro, rtK_nx, ok_loopM, ok_lcM, ok_dispM, ok_prsN, ok_prsC, ok_hget0, getK_some, ok_hputM, putK0, pc, pb, pl, ppb, ppl, plen, ok_add, ok_addS, ok_addT, ok_addL, ok_sub, ok_mul, ok_ixL, ok_ixT, ok_unp, unpK_tup, ok_set0, ok_setC, ok_app, flK_nx, flK_ct, flK_bk, flK_rt, flK_ro, sl_L, sl_T, sl_S, it_L, it_T, wip, ok_div, ok_mod, ok_pow, ok_rep, ok_ord, ok_fInt, ok_fAbs, ok_fNeg, ok_lenL, ok_lenT, ok_lenS, ok_fListL, ok_fListT, ok_fTupleL, ok_fTupleT, ok_eqI, ok_eqB, ok_eqS,
  okF_ok, okF_exc, ok_runM, ok_appA, ok_len1, ok_chain, isNonB_non, isNonB_int, isNonB_bl, isNonB_str, isNonB_tup, isNonB_lst, isNonB_obj, ok_isN, ok_max, ok_min, isi_int_int, isi_int_bl, isi_int_non, isi_int_str, isi_int_tup, isi_int_lst, isi_bool_int, isi_bool_bl, isi_str_str, isi_str_int, isi_str_bl, isi_str_non, isi_str_tup, isi_str_lst, isi_tuple_tup, isi_tuple_int, isi_tuple_bl, isi_tuple_non, isi_tuple_str, isi_tuple_lst,
  ok_conM, ok_fputM, fputK_new, conV_new, ok_makeM, ok_methM, ok_insM, ok_raise,
  List.map_cons, List.map_nil, List.replicate_succ, List.replicate_zero, List.cons_append, List.nil_append, List.append_nil, List.getElem?_cons_zero, List.getElem?_cons_succ, List.set_cons_zero, List.set_cons_succ, Nat.reduceSub, decide_eq_true_eq, if_true, if_false, Bool.false_eq_true, Bool.not_true, Bool.not_false, beq_self_eq_true, Bool.true_eq_false, bne_self_eq_false, Bool.bne_true, Bool.bne_false, Nat.zero_add, Nat.reduceAdd, true_and, and_true, reduceCtorEq, List.length_cons, List.length_nil, f_name, f_ends, f_rate, f_fee, f_least, o_result, o_call, o_is_open])
theorem eq_call_no {n : Nat} {o : OfV} {v : PV} {st : List MO} (hv : AnyP v) (hin : inP 0 1000000000000000000000000000000 v = false) : m_Office_call n [o.pv, v] st = .exc (numE v) st := by
  refine OkFx.eqx ?_
  unfold m_Office_call
  refine okF_fnF rfl ?_
  unfold b_Office_call
  refine ok_seq ?_
  walk_at "sx"
  rw [eq_need_amount_any hv, hin]
  walk_at "sx"
theorem eq_is_open_no {n : Nat} {o : OfV} {v : PV} {st : List MO} (hv : AnyP v) (hin : inP 0 1000000000000000000000000000000 v = false) : m_Office_is_open n [o.pv, v] st = .exc (numE v) st := by
  refine OkFx.eqx ?_
  unfold m_Office_is_open
  refine okF_fnF rfl ?_
  unfold b_Office_is_open
  refine ok_seq ?_
  walk_at "sx"
  rw [eq_need_amount_any hv, hin]
  walk_at "sx"
noncomputable abbrev lamC : Fn := (fnM 2 2 fun n => retM (insM ti_2 n (var 0) (bnd (argC (var 1) argN) fun ds => if ds.length = 1 then Dn.ret ds else stuck)))
noncomputable abbrev lamO : Fn := (fnM 2 2 fun n => retM (methM tm_is_open_2 n (Str.ofString "is_open") (var 1) (appA 1 0 (argC (var 0) argN) argN)))
theorem lamC_ok {n : Nat} {o : OfV} {a : Int} {st : List MO} (ho : o.Wf) (ha : 0 ≤ a ∧ a ≤ 1000000000000000000000000000000) (h : ¬ a < o.least) : lamC n [o.pv, .int a] st = .ok (.int (o.val a)) st := by
  refine OkFx.eq ?_
  refine okF_fn (hl := rfl) ?_
  walk_at "sx"
  rw [eq_call ho ha, if_neg h]
  walk_at "sx"
theorem lamC_cl {n : Nat} {o : OfV} {a : Int} {st : List MO} (ho : o.Wf) (ha : 0 ≤ a ∧ a ≤ 1000000000000000000000000000000) (h : a < o.least) : lamC n [o.pv, .int a] st = .exc (closedE o) st := by
  refine OkFx.eqx ?_
  refine okF_fn (hl := rfl) ?_
  walk_at "sx"
  rw [eq_call ho ha, if_pos h]
  walk_at "sx"
theorem lamC_no {n : Nat} {o : OfV} {v : PV} {st : List MO} (hv : AnyP v) (hin : inP 0 1000000000000000000000000000000 v = false) : lamC n [o.pv, v] st = .exc (numE v) st := by
  refine OkFx.eqx ?_
  refine okF_fn (hl := rfl) ?_
  walk_at "sx"
  rw [eq_call_no hv hin]
  walk_at "sx"
theorem lamO_ok {n : Nat} {o : OfV} {a : Int} {st : List MO} (ha : 0 ≤ a ∧ a ≤ 1000000000000000000000000000000) : lamO n [.int a, o.pv] st = .ok (.bl (decide (o.least ≤ a))) st := by
  refine OkFx.eq ?_
  refine okF_fn (hl := rfl) ?_
  walk_at "sx"
  rw [eq_is_open ha]
  walk_at "sx"
theorem lamO_no {n : Nat} {o : OfV} {v : PV} {st : List MO} (hv : AnyP v) (hin : inP 0 1000000000000000000000000000000 v = false) : lamO n [v, o.pv] st = .exc (numE v) st := by
  refine OkFx.eqx ?_
  refine okF_fn (hl := rfl) ?_
  walk_at "sx"
  rw [eq_is_open_no hv hin]
  walk_at "sx"
def ValQ (v : PV) : Prop := (∃ a, v = .int a ∧ 0 ≤ a ∧ a ≤ 1000000000000000000000000000000) ∨ (AnyT v ∧ inP 0 1000000000000000000000000000000 v = false)
theorem valQ_any {v : PV} (h : AnyT v) : ValQ v := by
  cases hin : inP 0 1000000000000000000000000000000 v with
  | true =>
    obtain ⟨a, rfl, ha⟩ := inP_int hin
    exact .inl ⟨a, rfl, ha⟩
  | false => exact .inr ⟨h, hin⟩
theorem val_facts {o : OfV} {v : PV} (ho : o.Wf) (hv : ValQ v) : ∃ (k : Str) (r : List PV) (D' : PV), (∀ n st, m_law_due n [o.row, v] st = .ok (.tup (.str k :: r)) st) ∧ Rp (.tup (.str k :: r)) ∧ Rp D' ∧
    (∀ (n : Nat) (st : List MO) (f c : Addr) (us : List V), m_law_told ⟨"law.<locals>.<lambda>", f, c, us, [o.pv, v], lamC⟩ n [Clo.tok ⟨"law.<locals>.<lambda>", f, c, us, [o.pv, v], lamC⟩] st = .ok (.tup (.str k :: r)) st) ∧
    (∀ (n : Nat) (st : List MO) (f c : Addr) (us : List V), m_law_told ⟨"law.<locals>.<lambda>", f, c, us, [v, o.pv], lamO⟩ n [Clo.tok ⟨"law.<locals>.<lambda>", f, c, us, [v, o.pv], lamO⟩] st = .ok D' st) ∧
    D' = if k = "number" then .tup (.str k :: r) else .tup [.str "told", .bl (decide (k = "told"))] := by
  rcases hv with ⟨a, rfl, ha⟩ | ⟨hv, hin⟩
  · have hr := rp_due ho ha
    by_cases h : a < o.least
    · have e : dueV o a = .tup [.str "closed", .str o.nm, .bl true] := if_pos h
      rw [e] at hr
      refine ⟨"closed", _, .tup [.str "told", .bl false], fun n st => by rw [eq_due ho ha, e], hr, rp_tb, fun n st f c us => told_closed (lamC_cl ho ha h), fun n st f c us => ?_, ?_⟩
      · have := told_ok (φ := ⟨"law.<locals>.<lambda>", f, c, us, [.int a, o.pv], lamO⟩) (lamO_ok (n := n) (o := o) (st := st) ha)
        rw [decide_eq_false (by omega)] at this
        exact this
      · rw [if_neg (by decide +kernel), decide_eq_false (by decide +kernel)]
    · have e : dueV o a = .tup [.str "told", .int (o.val a)] := if_neg h
      rw [e] at hr
      refine ⟨"told", _, .tup [.str "told", .bl true], fun n st => by rw [eq_due ho ha, e], hr, rp_tb, fun n st f c us => told_ok (lamC_ok ho ha h), fun n st f c us => ?_, ?_⟩
      · have := told_ok (φ := ⟨"law.<locals>.<lambda>", f, c, us, [.int a, o.pv], lamO⟩) (lamO_ok (n := n) (o := o) (st := st) ha)
        rw [decide_eq_true (by omega)] at this
        exact this
      · rw [if_neg (by decide +kernel), decide_eq_true (by decide +kernel)]
  · obtain ⟨t, ht, k1, k2⟩ := hv.txt
    exact ⟨"number", [.str t, .bl true], _, fun n st => eq_due_no hv.any hin ht, rp_num (by decide +kernel) (by decide +kernel) k1 k2, rp_num (by decide +kernel) (by decide +kernel) k1 k2, fun n st f c us => told_num (lamC_no hv.any hin) ht, fun n st f c us => told_num (lamO_no hv.any hin) ht, by rw [if_pos rfl]⟩
local macro_rules | `(tactic| walk_at "sx") => `(tactic| try simp only [ok_ret, ok_bnd, ok_bin, ok_var, varK_val, varK_own, pv_val, pv_own, ok_asB, asBK_bl, ok_andT, ok_orT, ok_notT, ok_iteT, ok_andV, ok_notV, blK_bl,
  ok_argN, ok_argC, ok_fits, ok_tupM, ok_lstM, ok_parN, ok_parS, intK_int, ok_slM, lstK_lst, ok_joinM, strK_str, ok_itemsM, ok_rngM, seqK_nx, seqK_rt, seqK_ro, seqK_bk, seqK_ct, ok_ifM, ok_retM, ok_slO, ok_dropM, ok_skipM, ok_asgM, ok_par2VO, ok_par3,
  ok_callM, rtK_rt, rtK_ro, rtK_nx, ok_loopM, ok_lcM, ok_dispM, ok_prsN, ok_prsC, ok_hget0, getK_some, ok_hputM, putK0, pc, pb, pl, ppb, ppl, plen, ok_add, ok_addS, ok_addT, ok_addL, ok_sub, ok_mul, ok_ixL, ok_ixT, ok_unp, unpK_tup, ok_set0, ok_setC, ok_app, flK_nx, flK_ct, flK_bk, flK_rt, flK_ro, sl_L, sl_T, sl_S, it_L, it_T, wip, ok_div, ok_mod, ok_pow, ok_rep, ok_ord, ok_fInt, ok_fAbs, ok_fNeg, ok_lenL, ok_lenT, ok_lenS, ok_fListL, ok_fListT, ok_fTupleL, ok_fTupleT, ok_eqI, ok_eqB, ok_eqS,
  okF_ok, okF_exc, ok_runM, ok_appA, ok_len1, ok_chain, isNonB_non, isNonB_int, isNonB_bl, isNonB_str, isNonB_tup, isNonB_lst, isNonB_obj, ok_isN, ok_max, ok_min, isi_int_int, isi_int_bl, isi_int_non, isi_int_str, isi_int_tup, isi_int_lst, isi_bool_int, isi_bool_bl, isi_str_str, isi_str_int, isi_str_bl, isi_str_non, isi_str_tup, isi_str_lst, isi_tuple_tup, isi_tuple_int, isi_tuple_bl, isi_tuple_non, isi_tuple_str, isi_tuple_lst,
  ok_conM, ok_fputM, fputK_new, conV_new, ok_makeM, ok_methM, ok_insM, ok_raise,
  List.map_cons, List.map_nil, List.replicate_succ, List.replicate_zero, List.cons_append, List.nil_append, List.append_nil, List.getElem?_cons_zero, List.getElem?_cons_succ, List.set_cons_zero, List.set_cons_succ, Nat.reduceSub, decide_eq_true_eq, if_true, if_false, Bool.false_eq_true, Bool.not_true, Bool.not_false, beq_self_eq_true, Bool.true_eq_false, bne_self_eq_false, Bool.bne_true, Bool.bne_false, Nat.zero_add, Nat.reduceAdd, true_and, and_true, reduceCtorEq, List.length_cons, List.length_nil, row0, row1, row2, row3, row4, row5, row6, ok_lamM])
set_option maxHeartbeats 16000000 in
theorem law_true (ns : List Int) (hns : ns.length ≤ 63) : ∃ n st, m_law n [.scr ns] [] = .ok (.bl true) st := by
  have hz : sizeLine = 16777216 := sizeLine_eq
  refine ⟨100, ?_⟩
  have hk : OkF (m_law 100 [.scr ns] []) (fun d _ => d = .bl true) := by
    unfold m_law
    refine okF_fnF rfl ?_
    unfold b_law
    refine ok_seq ?_
    walk_at "sx"
    refine sp_pen ?_
    generalize cutI ns none (some 63) = cells
    walk_at "sx"
    refine ok_seq ?_
    walk_at "sx"
    refine ⟨_, rngP_nat (by decide) (by decide), ?_⟩
    refine ok_for (fun j s => ∃ (es : List (Option SV)) (g st : List MO), s = ⟨[some (SV.val (.scr ns)), some (SV.val (.hnd 0))] ++ es, st⟩ ∧ es.length = 9 ∧ Pn cells (2000 * j) g st) ⟨List.replicate 9 none, [], [.dic (pen cells 0 0)], rfl, rfl, 0, 0, rfl, by decide, by decide, by decide⟩ ?_ ?_
    · rintro j x s hx ⟨es, g, st, rfl, hes, hp⟩
      obtain ⟨rfl, hj⟩ := rng_get hx
      obtain ⟨e2, e3, e4, e5, e6, e7, e8, e9, e10, rfl⟩ : ∃ a b c d e f a1 b1 c1, es = [a, b, c, d, e, f, a1, b1, c1] := by
        match es, hes with
        | [a, b, c, d, e, f, a1, b1, c1], _ => exact ⟨a, b, c, d, e, f, a1, b1, c1, rfl⟩
      refine ok_seq ?_
      walk_at "sx"
      refine sp_names hp (by omega) (by decide) fun nms st1 hnl hnm hnd hp1 => ?_
      obtain ⟨na, nb, nc, rfl⟩ : ∃ a b c, nms = [a, b, c] := by
        match nms, hnl with
        | [a, b, c], _ => exact ⟨a, b, c, rfl⟩
      have ha := hnm na (by simp)
      have hb := hnm nb (by simp)
      have hc := hnm nc (by simp)
      walk_at "sx"
      refine ok_seq ?_
      walk_at "sx"
      refine ⟨_, rfl, ?_⟩
      walk_at "sx"
      refine ⟨_, rfl, ?_⟩
      walk_at "sx"
      refine sp_draw hp1 (by omega) (by omega) fun r st2 hr0 hr1 hp2 => ?_
      walk_at "sx"
      obtain ⟨nd, hnd', hdd⟩ : ∃ y, L2.atI [PV.str na, .str nb, .str nc] r = some (.str y) ∧ Nm y := by
        have : r = 0 ∨ r = 1 ∨ r = 2 := by omega
        rcases this with rfl | rfl | rfl
        · exact ⟨na, rfl, ha⟩
        · exact ⟨nb, rfl, hb⟩
        · exact ⟨nc, rfl, hc⟩
      refine ⟨_, hnd', ?_⟩
      walk_at "sx"
      refine sp_row hp2 (by omega) ha hb hdd fun o st3 e1 e2' e3' ho hp3 => ?_
      walk_at "sx"
      refine ok_seq ?_
      walk_at "sx"
      rw [eq_made ho]
      walk_at "sx"
      have hp4 := hp3.up (more := [.gone, .gone])
      refine ok_seq ?_
      walk_at "sx"
      refine ⟨_, rngP_nat (by decide) (by decide), ?_⟩
      refine ok_for (fun i s => ∃ (a b c d e : Option SV) (g st : List MO), s = ⟨[some (SV.val (.scr ns)), some (SV.val (.hnd 0)), some (SV.val (.int j)), some (SV.val (.lst [.str na, .str nb, .str nc])), some (SV.val o.row), some (SV.val o.pv), a, b, c, d, e], st⟩ ∧ Pn cells (2000 * j + 80 + 100 * i) g st) ⟨_, _, _, _, _, _, _, rfl, hp4.mono (by omega)⟩ ?_ ?_
      · rintro i x s hx ⟨x6, x7, x8, x9, x10, g5, st5, rfl, hp5⟩
        obtain ⟨rfl, hi⟩ := rng_get hx
        refine ok_seq ?_
        refine Okx.imp (Q := fun fl s => fl = Fl.nx ∧ ∃ v st7, ValQ v ∧ Pn cells (2000 * j + 80 + 100 * i + 90) g5 st7 ∧ s = ⟨[some (SV.val (.scr ns)), some (SV.val (.hnd 0)), some (SV.val (.int j)), some (SV.val (.lst [.str na, .str nb, .str nc])), some (SV.val o.row), some (SV.val o.pv), some (SV.val (.int i)), some (SV.val v), x8, x9, x10], st7⟩) ?_ ?_
        · walk_at "sx"
          refine sp_draw hp5 (by omega) (by omega) fun r5 st6 h50 h51 hp6 => ?_
          walk_at "sx"
          split
          · refine sp_anyT hp6 (by omega) fun w st7 hw hp7 => ?_
            exact ⟨_, _, valQ_any hw, hp7.mono (by omega), rfl⟩
          · refine sp_amount hp6 (by omega) ho fun a st7 h0 h1 hp7 => ?_
            exact ⟨_, _, Or.inl ⟨a, rfl, h0, h1⟩, hp7.mono (by omega), rfl⟩
        · rintro fl s ⟨rfl, v, st7, hv, hp7, rfl⟩
          obtain ⟨k, r', D', f1, f2, f3, f4, f5, f6⟩ := val_facts ho hv
          obtain ⟨t1, ht1⟩ := f2
          obtain ⟨t2, ht2⟩ := f3
          walk_at "sx"
          refine ok_seq ?_
          walk_at "sx"
          rw [f1]
          walk_at "sx"
          refine ⟨_, rngP_nat (by decide) (by decide), ?_⟩
          refine ok_for (fun i' s => ∃ (a b : Option SV), s = ⟨[some (SV.val (.scr ns)), some (SV.val (.hnd 0)), some (SV.val (.int j)), some (SV.val (.lst [.str na, .str nb, .str nc])), some (SV.val o.row), some (SV.val o.pv), some (SV.val (.int i)), some (SV.val v), some (SV.val (.tup (.str k :: r'))), a, b], st7⟩) ⟨_, _, rfl⟩ ?_ ?_
          · rintro i' x s hx ⟨x9, x10, rfl⟩
            refine ok_seq ?_
            walk_at "sx"
            refine (lamK_ok rfl fun f c us => f4 100 st7 f c us).mpr ?_
            walk_at "sx"
            rw [ok_reprR ht1]
            walk_at "sx"
            rw [ok_reprR ht1]
            walk_at "sx"
            refine ok_seq ?_
            walk_at "sx"
            refine (lamK_ok rfl fun f c us => f5 100 st7 f c us).mpr ?_
            walk_at "sx"
            rw [ok_reprR ht2]
            walk_at "sx"
            have at0 : L2.atI (PV.str k :: r') 0 = some (PV.str k) := by
              unfold L2.atI L2.ixN
              rw [List.length_cons, if_pos (by omega), if_pos (by omega)]
              rfl
            refine ⟨_, at0, ?_⟩
            walk_at "sx"
            by_cases hk : k = "number"
            · rw [if_pos hk] at f6
              rw [if_pos (by rw [hk]; simp)]
              rw [f6] at ht2
              rw [ok_reprR ht2]
              walk_at "sx"
              exact ⟨_, _, rfl⟩
            · rw [if_neg hk] at f6
              rw [if_neg (by simpa using hk)]
              refine ⟨_, at0, ?_⟩
              walk_at "sx"
              rw [show (k == Str.ofString "told") = decide (k = Str.ofString "told") by rw [Bool.eq_iff_iff]; simp]
              rw [f6] at ht2
              refine ⟨by omega, ?_⟩
              rw [ok_reprR ht2]
              walk_at "sx"
              exact ⟨_, _, rfl⟩
          · rintro s ⟨x9, x10, rfl⟩
            exact ⟨_, _, _, _, _, _, _, rfl, hp7.mono (by omega)⟩
      · rintro s ⟨x6, x7, x8, x9, x10, g5, st5, rfl, hp5⟩
        walk_at "sx"
        rw [eq_law_values]
        walk_at "sx"
        obtain ⟨t, ht⟩ := rp_values ho (b := o.most.isSome)
        rw [ok_reprR ht]
        walk_at "sx"
        refine ⟨by omega, ?_⟩
        rw [show (!isNonB o.mostV) = o.most.isSome by rw [isNonB_mostV]; cases o.most <;> rfl, ok_reprR ht]
        walk_at "sx"
        exact ⟨[_, _, _, _, _, _, _, _, _], _, _, rfl, rfl, hp5.mono (by simp; omega)⟩
    · rintro s ⟨es, g, st, rfl, hes, hp⟩
      walk_at "sx"
  obtain ⟨d, st, e, rfl⟩ := hk.ex
  exact ⟨st, e⟩
end Lw
open PySem PySem.W PySem.Calls PyProof.Rows
set_option maxRecDepth 100000 in
set_option maxHeartbeats 0 in
theorem PySem.Challenge.cw_rounddown_k02_results_of_offices_holds : PySem.Challenge.rw_rounddown_k02_results_of_offices.Holds := by
  w_on; o_law
  refine HandSHeadRun.head_any (r := OpenLaw.row PySem.Challenge.rw_rounddown_k02_results_of_offices) (q := view (OpenLaw.row PySem.Challenge.rw_rounddown_k02_results_of_offices).prog [39]) (H := Lw.hk) (ob := Lw.ob) (M := 40000) (loose := Lw.nms) (d := HandSHeadRun.topDef (OpenLaw.row PySem.Challenge.rw_rounddown_k02_results_of_offices).prog 39) (kwd := []) Lw.ob_eq
    (by kernel_rfl) (fun s => by kernel_rfl) Lw.run (by kernel_rfl) (by kernel_rfl) (by kernel_rfl) (by rfl) (by first | assumption | decide +kernel) (by decide +kernel) ⟨rfl, rfl, rfl, rfl, rfl, by decide +kernel⟩ ?hw ?hc
  case hw => w_witness2
  case hc =>
    refine Dn.law_denT (l := PySem.Challenge.rw_rounddown_k02_results_of_offices) (k := 8) (x := "_law_script") (m := Lw.m_law) rfl (by kernel_rfl) ⟨rfl, by decide, by decide⟩ ?F (fun ns h _ => Lw.law_true ns h)
    intro w mg fa h Y G hmg0
    obtain ⟨K, T, KT, g0, c⟩ := Y
    have hmg : mg ("law" : PySem.Str) = some (.ref fa) := by
      have e : (HandSHeadRun.topDef (OpenLaw.row PySem.Challenge.rw_rounddown_k02_results_of_offices).prog 39).name = ("law" : PySem.Str) := by kernel_rfl
      rw [← e]
      exact hmg0
    exact ⟨K, T, KT, Lw.facts KT.kin G hmg c⟩
