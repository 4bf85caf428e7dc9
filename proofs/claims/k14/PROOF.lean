import PyProof.Rows.All
import Wide.All
import OpenK.AllK
import Wide.FinOn
import HandS.Head2
import HandS.HeadHook2
import HandS.HeadNt
import HandS.HeadEnd
import PySem.Challenge.RW_rounddown_k14_whole_results_repeat
import HandS.ForMost
import HandS.Exc
import HandS.Deep
import HandS.TupAny
import HandS.Style
import HandS.Wide
import HandS.Iter
import HandS.ExcOwn
import KE.KSortKeySt
import KE.KSortedM
import HandS.Property
import HandS.MakeKwOnly
import HandS.Star
import HandS.IsInst
import HandS.ExcInit
import HandS.TryOnly
import HandS.ClsMeth
import HandS.Nested
import KE.KSuper
import HandS.Codes
import PyProof.InstNe
import HandS.FStr
import HandS.RaiseMore
import HandS.Flow
import HandS.ExcIs
import HandS.ExcField
import KE.KExcIs
import KE.GoesEnum
import KE.KOpsOwn
import HandS.NoneIn
import HandS.EndTab
import KE.KCallOwn
import PyProof.FactsLen
import PyProof.Calls
import OpenK.KMeth
import HandS.DictComp
import HandS.More
import HandS.Conv
import KE.DatumOrd
import HandS.Text
import HandS.CallSlots
import HandS.Finally
import HandS.SetFor
import HandS.Strs
import HandS.Zip
import KE.SortData
import KE.DataMinMax
import HandS.GenCall
import HandS.GenList
import KE.KIntText
set_option Elab.async false
set_option linter.all false
set_option maxRecDepth 100000
/-! Hs0: a small head: what the walk leans on is decided by one look at the heap behind the top. -/
namespace Hs
open PySem L2 PySem.Spec PyProof.Rows He
abbrev Frag := PySem.W.Frag
/-! ### what the module's names reach: by a mask of addresses -/
def goA (g : Addr → Option Obj) : Nat → List Addr → Nat → List Addr → List Addr
  | 0, _, _, acc => acc
  | n + 1, [], m, acc => acc
  | n + 1, a :: r, m, acc => match Nat.testBit m a with
    | true => goA g n r m acc
    | false => match g a with
      | some o => goA g n (refsD o ++ r) (m ||| (1 <<< a)) (a :: acc)
      | none => goA g n r (m ||| (1 <<< a)) acc
/-- all that main reaches -/
def reach (g : Addr → Option Obj) (n : Nat) : List Addr := (goA g n [mainGlobals] 0 []).reverse ++ [cStatics]
/-! ### functions -/
abbrev FnV : Type := Option (Str × Str × Arguments × FuncBody × Scope × Addr × List Str × Addr)
def fnV (K : Frag) (a : Addr) : FnV := match K.lookup a with
  | some ⟨_, _, .func fd, _⟩ => some (fd.name, fd.qualname, fd.params, fd.body, fd.scope, fd.globals, fd.closure.map (·.1), fd.builtins)
  | _ => none
structure Df where
  at_ : Frag → Addr
  name : Str
  qual : Str
  st : Stmt
  cl : List Str := []
  df : Nat := 0
def Df.val (d : Df) : FnV := some (d.name, d.qual, defArgs d.st, .stmts (defBody d.st), defScope d.st, mainGlobals, d.cl, builtinsNs)
theorem codeRef {K : Frag} {cd : Value} {q : Str} (h : PySem.W.codeIn K cd q = true) : ∃ c, cd = .ref c := by
  cases cd with
  | ref c => exact ⟨c, rfl⟩
  | _ => cases h
def noneB : Value → Bool
  | .none => true
  | _ => false
theorem noneB_ok {v : Value} (h : noneB v = true) : v = .none := by
  cases v with
  | none => rfl
  | _ => cases h
def seqB (K : Frag) (k : Nat) : Value → Bool
  | .ref T => (match K.lookup T with
    | some o => (match o.data with
      | .seq its _ => decide (its.size = k)
      | _ => false)
    | _ => false)
  | _ => false
theorem seqB_ok {K : Frag} {v : Value} {k : Nat} (h : seqB K k v = true) : ∃ T o its m, v = .ref T ∧ K.lookup T = some o ∧ o.data = .seq its m ∧ its.size = k := by
  cases v with
  | ref T =>
    unfold seqB at h
    dsimp only at h
    cases e : K.lookup T with
    | none =>
      rw [e] at h
      cases h
    | some o =>
      rw [e] at h
      dsimp only at h
      cases e2 : o.data with
      | seq its m =>
        rw [e2] at h
        exact ⟨T, o, its, m, rfl, e, e2, of_decide_eq_true h⟩
      | _ =>
        rw [e2] at h
        cases h
  | _ => cases h
def Df.ok (K : Frag) (d : Df) : Bool := match K.lookup (d.at_ K) with
  | some ⟨_, _, .func fd, _⟩ => PySem.W.codeIn K fd.code d.qual && (match d.df with | 0 => noneB fd.defaults | k + 1 => seqB K (k + 1) fd.defaults)
  | _ => false
def ccOf (K : Frag) (f : Addr) : Addr := match K.lookup f with
  | some ⟨_, _, .func fd, _⟩ => (match fd.closure with
    | (_, a) :: _ => a
    | [] => 0)
  | _ => 0
theorem Df.get {K : Frag} {d : Df} (e : fnV K (d.at_ K) = d.val) (c : d.ok K = true) (h : d.cl = []) (hd : d.df = 0) :
    ∃ oc od osl kV dc pm an cd ct, K.lookup (d.at_ K) = some ⟨oc, od, .func (PySem.W.fnOf d.name d.qual (defArgs d.st) (defBody d.st) (defScope d.st) .none kV dc pm an cd ct), osl⟩ ∧ PySem.W.codeIn K cd d.qual = true := by
  unfold fnV at e
  unfold Df.ok at c
  cases q : K.lookup (d.at_ K) with
  | none =>
    rw [q] at c
    cases c
  | some o =>
    obtain ⟨oc, od, dt, osl⟩ := o
    rw [q] at c e
    cases dt with
    | func fd =>
      obtain ⟨n1, n2, n3, n4, n5, n6, n7, n8, n9, n10, n11, n12, n13, n14, n15⟩ := fd
      have e2 : (some (n1, n2, n3, n4, n5, n6, n7.map (·.1), n15) : FnV) = some (d.name, d.qual, defArgs d.st, .stmts (defBody d.st), defScope d.st, mainGlobals, d.cl, builtinsNs) := e
      simp only [Option.some.injEq, Prod.mk.injEq] at e2
      obtain ⟨h1, h2, h3, h4, h5, h6, h7, h8⟩ := e2
      obtain ⟨k1, k2⟩ := ba c
      rw [hd] at k2
      rw [h] at h7
      have h9 : n7 = [] := List.map_eq_nil_iff.mp h7
      have h10 : n8 = Value.none := noneB_ok k2
      subst h1 h2 h3 h4 h5 h6 h8 h9 h10
      exact ⟨oc, od, osl, n9, n10, n11, n12, n13, n14, rfl, k1⟩
    | _ => cases c
theorem Df.getD {K : Frag} {d : Df} (e : fnV K (d.at_ K) = d.val) (c : d.ok K = true) (h : d.cl = []) {k : Nat} (hd : d.df = k + 1) :
    ∃ oc od osl kV dc pm an cd ct T oT its mT, K.lookup (d.at_ K) = some ⟨oc, od, .func (PySem.W.fnOf d.name d.qual (defArgs d.st) (defBody d.st) (defScope d.st) (.ref T) kV dc pm an cd ct), osl⟩ ∧ PySem.W.codeIn K cd d.qual = true ∧ K.lookup T = some oT ∧ oT.data = .seq its mT ∧ its.size = k + 1 := by
  unfold fnV at e
  unfold Df.ok at c
  cases q : K.lookup (d.at_ K) with
  | none =>
    rw [q] at c
    cases c
  | some o =>
    obtain ⟨oc, od, dt, osl⟩ := o
    rw [q] at c e
    cases dt with
    | func fd =>
      obtain ⟨n1, n2, n3, n4, n5, n6, n7, n8, n9, n10, n11, n12, n13, n14, n15⟩ := fd
      have e2 : (some (n1, n2, n3, n4, n5, n6, n7.map (·.1), n15) : FnV) = some (d.name, d.qual, defArgs d.st, .stmts (defBody d.st), defScope d.st, mainGlobals, d.cl, builtinsNs) := e
      simp only [Option.some.injEq, Prod.mk.injEq] at e2
      obtain ⟨h1, h2, h3, h4, h5, h6, h7, h8⟩ := e2
      obtain ⟨k1, k2⟩ := ba c
      rw [hd] at k2
      rw [h] at h7
      have h9 : n7 = [] := List.map_eq_nil_iff.mp h7
      obtain ⟨T, oT, its, mT, h10, hl, ho, hz⟩ := seqB_ok (show seqB K (k + 1) n8 = true from k2)
      subst h1 h2 h3 h4 h5 h6 h8 h9 h10
      exact ⟨oc, od, osl, n9, n10, n11, n12, n13, n14, T, oT, its, mT, rfl, k1, hl, ho, hz⟩
    | _ => cases c
theorem Df.getX {K : Frag} {d : Df} {x : Str} (e : fnV K (d.at_ K) = d.val) (c : d.ok K = true) (h : d.cl = [x]) (hd : d.df = 0) :
    ∃ oc od osl kV dc pm an cda ct, K.lookup (d.at_ K) = some ⟨oc, od, .func (PySem.W.fnX d.name d.qual (defArgs d.st) (defBody d.st) (defScope d.st) [(x, ccOf K (d.at_ K))] .none kV dc pm an (.ref cda) ct), osl⟩ ∧ PySem.W.codeIn K (.ref cda) d.qual = true := by
  unfold fnV at e
  unfold Df.ok at c
  unfold ccOf
  cases q : K.lookup (d.at_ K) with
  | none =>
    rw [q] at c
    cases c
  | some o =>
    obtain ⟨oc, od, dt, osl⟩ := o
    rw [q] at c e
    cases dt with
    | func fd =>
      obtain ⟨n1, n2, n3, n4, n5, n6, n7, n8, n9, n10, n11, n12, n13, n14, n15⟩ := fd
      have e2 : (some (n1, n2, n3, n4, n5, n6, n7.map (·.1), n15) : FnV) = some (d.name, d.qual, defArgs d.st, .stmts (defBody d.st), defScope d.st, mainGlobals, d.cl, builtinsNs) := e
      simp only [Option.some.injEq, Prod.mk.injEq] at e2
      obtain ⟨h1, h2, h3, h4, h5, h6, h7, h8⟩ := e2
      obtain ⟨k1, k2⟩ := ba c
      rw [hd] at k2
      rw [h] at h7
      obtain ⟨z, hz⟩ : ∃ z, n7 = [(x, z)] := by
        cases n7 with
        | nil => cases h7
        | cons p r =>
          obtain ⟨p1, p2⟩ := p
          cases r with
          | nil =>
            cases h7
            exact ⟨p2, rfl⟩
          | cons p' r' => cases h7
      have h10 : n8 = Value.none := noneB_ok k2
      obtain ⟨cda, hc⟩ := codeRef k1
      have h13 : n13 = .ref cda := hc
      subst h1 h2 h3 h4 h5 h6 h8 hz h10 h13
      exact ⟨oc, od, osl, n9, n10, n11, n12, cda, n14, rfl, k1⟩
    | _ => cases c
/-! ### the Hook -/
abbrev Al : Type := Bool × List FnV
def obsK (ex : List (Frag → Bool)) (fn : List Df) (K : Frag) : Al := ((ex.all fun f => f K) && fn.all fun d => d.ok K, fn.map fun d => fnV K (d.at_ K))
def valK (fn : List Df) : Al := (true, fn.map Df.val)
def Says (ex : List (Frag → Bool)) (fn : List Df) (K : Frag) : Prop := obsK ex fn K = valK fn
def obsG (n : Nat) (ex : List (Frag → Bool)) (fn : List Df) (g : Addr → Option Obj) : Al := obsK ex fn (frG g (reach g n))
def hook (n : Nat) (ex : List (Frag → Bool)) (fn : List Df) : PySem.W.Hook where
  α := Al
  obs := fun s => obsG n ex fn s.heap.get?
  val := fun _ => valK fn
  says := fun _ h => ∃ K : Frag, K.In h ∧ Says ex fn K
  of := fun _ _ e => ⟨_, frG_in, e⟩
  keeps := fun _ _ _ ⟨K, hK, c⟩ k => ⟨K, PySem.W.Frag.In.keeps hK k, c⟩
theorem obsG_eq {n : Nat} {ex : List (Frag → Bool)} {fn : List Df} {s : PySem.W.SharedT} : obsG n ex fn (HandSHeadRun.getT s) = (hook n ex fn).obs s.abs := by
  have e : HandSHeadRun.getT s = s.abs.heap.get? := funext (HandSHeadRun.getT_eq s)
  rw [e] <;> rfl
section
variable {ex : List (Frag → Bool)} {fn : List Df} {K : Frag}
theorem Says.fact (c : Says ex fn K) (i : Nat) {f : Frag → Bool} (h : ex[i]? = some f := by rfl) : f K = true := by
  have c1 := (ba (show ((ex.all fun f => f K) && fn.all fun d => d.ok K) = true from congrArg (fun z : Al => z.1) c)).1
  exact List.all_eq_true.mp c1 f (List.mem_of_getElem? h)
theorem Says.def_ (c : Says ex fn K) (i : Nat) {d : Df} (h : fn[i]? = some d := by rfl) : fnV K (d.at_ K) = d.val ∧ d.ok K = true := by
  have c2 := (ba (show ((ex.all fun f => f K) && fn.all fun d => d.ok K) = true from congrArg (fun z : Al => z.1) c)).2
  have e : fn.map (fun d => fnV K (d.at_ K)) = fn.map Df.val := congrArg (fun z : Al => z.2) c
  have e2 : (fn.map fun d => fnV K (d.at_ K))[i]? = (fn.map Df.val)[i]? := by rw [e]
  rw [List.getElem?_map, List.getElem?_map, h] at e2
  exact ⟨Option.some.inj e2, List.all_eq_true.mp c2 d (List.mem_of_getElem? h)⟩
end
/-! ### facts with an open place -/
def pf (K : Frag) (p : Addr) : Addr := match PySem.W.recIn K p "property" with
  | some (.ref f :: _) => f
  | _ => 0
def pfB (K : Frag) (p : Addr) : Bool := match PySem.W.recIn K p "property" with
  | some (.ref _ :: _) => true
  | _ => false
theorem pf_ok {K : Frag} {p : Addr} (h : pfB K p = true) : ∃ z, PySem.W.recIn K p "property" = some (.ref (pf K p) :: z) := by
  unfold pfB at h
  unfold pf
  split at h
  · rename_i f z e
    exact ⟨z, by rw [e]⟩
  · cases h
def intO (i : Int) : Option (Option Value) → Bool
  | some (some (.int j _)) => decide (j = i)
  | _ => false
theorem intO_ok {i : Int} {o : Option (Option Value)} (h : intO i o = true) : ∃ t, o = some (some (.int i t)) := by
  unfold intO at h
  split at h
  · rename_i j t
    have e : j = i := of_decide_eq_true h
    subst e
    exact ⟨t, rfl⟩
  · cases h
def strO (x : Str) : Option (Option Value) → Bool
  | some (some (.str y _)) => decide (y = x)
  | _ => false
theorem strO_ok {x : Str} {o : Option (Option Value)} (h : strO x o = true) : ∃ t, o = some (some (.str x t)) := by
  unfold strO at h
  split at h
  · rename_i y t
    have e : y = x := of_decide_eq_true h
    subst e
    exact ⟨t, rfl⟩
  · cases h
def catO (i : Int) : Option PySem.W.CFound → Bool
  | some (.val (.int j _)) => decide (j = i)
  | _ => false
theorem catO_ok {i : Int} {o : Option PySem.W.CFound} (h : catO i o = true) : ∃ t, o = some (.val (.int i t)) := by
  unfold catO at h
  split at h
  · rename_i j t
    have e : j = i := of_decide_eq_true h
    subst e
    exact ⟨t, rfl⟩
  · cases h
def cvalO (v : Value) : Option PySem.W.CFound → Bool
  | some (.val u) => decide (u = v)
  | _ => false
theorem cvalO_ok {v : Value} {o : Option PySem.W.CFound} (h : cvalO v o = true) : o = some (.val v) := by
  unfold cvalO at h
  split at h
  · rename_i u
    have e : u = v := of_decide_eq_true h
    subst e
    rfl
  · cases h
/-- a closure's cell that holds the class at D -/
def cellB (K : Frag) (cc D : Addr) : Bool := match K.lookup cc with
  | some ⟨_, _, .cell (some v), _⟩ => decide (v = .ref D)
  | _ => false
theorem cellB_ok {K : Frag} {cc D : Addr} (h : cellB K cc D = true) : ∃ oc od sl, K.lookup cc = some ⟨oc, od, .cell (some (.ref D)), sl⟩ := by
  unfold cellB at h
  split at h
  · rename_i oc od v sl e
    have e2 : v = .ref D := of_decide_eq_true h
    subst e2
    exact ⟨oc, od, sl, e⟩
  · cases h
/-- a function's code stands in this file -/
def fileB (K : Frag) (f : Addr) (x : Str) : Bool := match K.lookup f with
  | some ⟨_, _, .func fd, _⟩ => (match fd.code with
    | .ref c => (match K.lookup c with
      | some ⟨_, _, .fields vs, _⟩ => (match (vs[2]? : Option Value) with
        | some (.str y _) => x == y
        | _ => false)
      | _ => false)
    | _ => false)
  | _ => false
theorem fileB_ok {K : Frag} {f c : Addr} {x : Str} {oc : Value} {od : Option Addr} {fd : FuncData} {osl : Array (Option Value)} (l : K.lookup f = some ⟨oc, od, .func fd, osl⟩) (e : fd.code = .ref c) (h : fileB K f x = true) :
    ∃ oc od vs sl y t, K.lookup c = some ⟨oc, od, .fields vs, sl⟩ ∧ vs[2]? = some (.str y t) ∧ (x == y) = true := by
  unfold fileB at h
  rw [l] at h
  have h1 : (match fd.code with
    | .ref c => (match K.lookup c with
      | some ⟨_, _, .fields vs, _⟩ => (match (vs[2]? : Option Value) with
        | some (.str y _) => x == y
        | _ => false)
      | _ => false)
    | _ => false) = true := h
  rw [e] at h1
  have h2 : (match K.lookup c with
      | some ⟨_, _, .fields vs, _⟩ => (match (vs[2]? : Option Value) with
        | some (.str y _) => x == y
        | _ => false)
      | _ => false) = true := h1
  split at h2
  · rename_i vs sl e2
    split at h2
    · rename_i y t e3
      exact ⟨_, _, vs, sl, y, t, e2, e3, h2⟩
    · cases h2
  · cases h2
def newB (nw : String) : List (Option Value) → Bool
  | [_, _, _, _, some (.builtin n), _] => decide (n = nw)
  | _ => false
theorem newB_ok {nw : String} {l : List (Option Value)} (h : newB nw l = true) : ∃ k0 k1 k2 k3 k5, l = [k0, k1, k2, k3, some (.builtin nw), k5] := by
  unfold newB at h
  split at h
  · rename_i k0 k1 k2 k3 n k5
    have e : n = nw := of_decide_eq_true h
    subst e
    exact ⟨k0, k1, k2, k3, k5, rfl⟩
  · cases h
/-- an own exception class -/
def excB (K : Frag) (C : Addr) (bm : List Value) (nw : String) : Bool := match K.lookup C with
  | some ⟨c, _, .cls cd, sl⟩ => decide (c = .type "type") && (decide (cd.mro = .ref C :: bm) && (decide (cd.hasDict = true) && (decide (cd.hasDel = false) && newB nw sl.toList)))
  | _ => false
theorem excB_ok {K : Frag} {C : Addr} {bm : List Value} {nw : String} (h : excB K C bm nw = true) :
    ∃ xa xb xd xe xf xg xh xj xk xl xm xo xp xr, K.lookup C = some (PySem.excClassObj xa xb C xd xe bm true xf xg xh xj xk xl xm xo xp xr nw) := by
  unfold excB at h
  split at h
  · rename_i c od cd sl e
    obtain ⟨h1, h⟩ := ba h
    obtain ⟨h2, h⟩ := ba h
    obtain ⟨h3, h⟩ := ba h
    obtain ⟨h4, h⟩ := ba h
    obtain ⟨k0, k1, k2, k3, k5, e2⟩ := newB_ok h
    obtain ⟨n, bs, mr, ns, q, hd, sn, sb, ab, col, del⟩ := cd
    have e3 : sl = #[k0, k1, k2, k3, some (.builtin nw), k5] := by
      rw [← Array.toArray_toList (xs := sl), e2]
    have e5 : c = .type "type" := of_decide_eq_true h1
    have e6 : mr = .ref C :: bm := of_decide_eq_true h2
    have e7 : hd = true := of_decide_eq_true h3
    have e8 : del = false := of_decide_eq_true h4
    subst e3 e5 e6 e7 e8
    exact ⟨_, _, _, _, _, _, _, _, _, _, _, _, _, _, e⟩
  · cases h
/-- a class's line of classes -/
def mroB (K : Frag) (C : Addr) (l : List Value) : Bool := match PySem.W.clsIn K C with
  | some cd => decide (cd.mro = l)
  | none => false
theorem mroB_ok {K : Frag} {C : Addr} {l : List Value} (h : mroB K C l = true) : ∃ cd, PySem.W.clsIn K C = some cd ∧ cd.mro = l := by
  unfold mroB at h
  split at h
  · rename_i cd e
    exact ⟨cd, e, of_decide_eq_true h⟩
  · cases h
end Hs
namespace Dn
open PySem
/-- the i-th statement of a class -/
def clsDef (st : Stmt) (i : Nat) : Stmt := match st with
  | .ClassDef _ _ _ body _ _ _ _ _ _ _ => body.getD i (.Pass ⟨0, 0, 0, 0⟩)
  | _ => .Pass ⟨0, 0, 0, 0⟩
end Dn
/-! Ht: a module's tuple of texts. -/
/-! Hk: a def's keyword-only defaults in the heap. -/
namespace Lw
open PySem Dn PySem.Spec PyProof.Rows
open L2 hiding bin
def top (i : Nat) : Stmt := PySem.Challenge.pw_rounddown_k14_whole_results_repeat.main.body.getD i (.Pass ⟨0, 0, 0, 0⟩)
abbrev s_law_pen : Stmt := top 33
abbrev s_law_draw : Stmt := top 34
abbrev s_law_pick : Stmt := top 35
abbrev s_law_names : Stmt := top 37
abbrev s_law_digits : Stmt := top 36
abbrev s_law_row : Stmt := top 38
abbrev s_law_chain : Stmt := top 41
abbrev s_is_name : Stmt := top 15
abbrev s_need_name : Stmt := top 16
abbrev s_is_integer : Stmt := top 14
abbrev s_is_rate : Stmt := top 24
abbrev s_need_integer : Stmt := top 17
abbrev s_Office_init : Stmt := clsDef (top 25) 4
abbrev s_CappedOffice_init : Stmt := clsDef (top 26) 1
abbrev s_law_made : Stmt := top 39
abbrev s_Office_source : Stmt := clsDef (top 25) 8
abbrev s_Office_goal : Stmt := clsDef (top 25) 9
abbrev s_Route_init : Stmt := clsDef (top 31) 1
abbrev s_Route_add : Stmt := clsDef (top 31) 8
abbrev s_law_route : Stmt := top 42
abbrev s_law_amount : Stmt := top 40
abbrev s_law_route_amount : Stmt := top 43
abbrev s_law_is_plain : Stmt := top 44
abbrev s_need_amount : Stmt := top 18
abbrev s_Office_result : Stmt := clsDef (top 25) 17
abbrev s_CappedOffice_result : Stmt := clsDef (top 26) 4
abbrev s_Route_result : Stmt := clsDef (top 31) 18
abbrev s_Office_call : Stmt := clsDef (top 25) 6
abbrev s_Route_holdings : Stmt := clsDef (top 31) 17
abbrev s_Route_call : Stmt := clsDef (top 31) 3
abbrev s_law : Stmt := top 45
abbrev s_Closed_init : Stmt := clsDef (top 9) 0
abbrev R : PySem.W.OpenRow := PySem.W.OpenLaw.row PySem.Challenge.rw_rounddown_k14_whole_results_repeat
def nm0 : List Str := ["_wall", "InvalidName", "InvalidRate", "InvalidNumber", "InvalidOffice", "InvalidText", "NotJoined", "TooMany", "Closed", "COINS", "LETTERS", "ALPHABET", "is_integer", "is_name", "need_name", "need_integer", "need_amount", "reduced", "times", "DIGITS"]
def nm1 : List Str := ["is_rate", "Office", "CappedOffice", "number_in", "rate_in", "office_in", "Route", "_law_pen", "_law_draw", "_law_pick", "_law_digits", "_law_names", "_law_row", "_law_made", "_law_amount", "_law_chain", "_law_route", "_law_route_amount", "_law_is_plain"]
def nms : List Str := nm0 ++ nm1
def ex : List (Hs.Frag → Bool) := [
  fun K => Hs.cellB K (Hs.ccOf K (He.ma K (He.ga K "CappedOffice") "__init__")) (He.ga K "CappedOffice"),
  fun K => Hs.fileB K (He.ma K (He.ga K "CappedOffice") "__init__") (PySem.Challenge.pw_rounddown_k14_whole_results_repeat.main.file : Str),
  fun K => Hs.cellB K (Hs.ccOf K (He.ma K (He.ga K "CappedOffice") "result")) (He.ga K "CappedOffice"),
  fun K => Hs.fileB K (He.ma K (He.ga K "CappedOffice") "result") (PySem.Challenge.pw_rounddown_k14_whole_results_repeat.main.file : Str),
  fun K => decide (PySem.W.nsIn K mainGlobals "_law_pen" = some (some (.ref (He.ga K "_law_pen")))),
  fun K => decide (PySem.W.nsIn K mainGlobals "_law_draw" = some (some (.ref (He.ga K "_law_draw")))),
  fun K => decide (PySem.W.nsIn K mainGlobals "_law_pick" = some (some (.ref (He.ga K "_law_pick")))),
  fun K => decide (PySem.W.nsIn K mainGlobals "_law_names" = some (some (.ref (He.ga K "_law_names")))),
  fun K => decide (PySem.W.nsIn K mainGlobals "_law_digits" = some (some (.ref (He.ga K "_law_digits")))),
  fun K => decide (PySem.W.nsIn K mainGlobals "_law_row" = some (some (.ref (He.ga K "_law_row")))),
  fun K => decide (PySem.W.nsIn K mainGlobals "_law_chain" = some (some (.ref (He.ga K "_law_chain")))),
  fun K => decide (PySem.W.nsIn K mainGlobals "is_name" = some (some (.ref (He.ga K "is_name")))),
  fun K => decide (PySem.W.nsIn K mainGlobals "need_name" = some (some (.ref (He.ga K "need_name")))),
  fun K => decide (PySem.W.nsIn K mainGlobals "is_integer" = some (some (.ref (He.ga K "is_integer")))),
  fun K => decide (PySem.W.nsIn K mainGlobals "Office" = some (some (.ref (He.ga K "Office")))),
  fun K => decide (PySem.W.nsIn K mainGlobals "is_rate" = some (some (.ref (He.ga K "is_rate")))),
  fun K => decide (PySem.W.nsIn K mainGlobals "need_integer" = some (some (.ref (He.ga K "need_integer")))),
  fun K => decide (PySem.W.nsIn K mainGlobals "CappedOffice" = some (some (.ref (He.ga K "CappedOffice")))),
  fun K => decide (PySem.W.nsIn K mainGlobals "_law_made" = some (some (.ref (He.ga K "_law_made")))),
  fun K => decide (PySem.W.nsIn K mainGlobals "Route" = some (some (.ref (He.ga K "Route")))),
  fun K => decide (PySem.W.nsIn K mainGlobals "_law_route" = some (some (.ref (He.ga K "_law_route")))),
  fun K => decide (PySem.W.nsIn K mainGlobals "_law_amount" = some (some (.ref (He.ga K "_law_amount")))),
  fun K => decide (PySem.W.nsIn K mainGlobals "_law_route_amount" = some (some (.ref (He.ga K "_law_route_amount")))),
  fun K => decide (PySem.W.nsIn K mainGlobals "_law_is_plain" = some (some (.ref (He.ga K "_law_is_plain")))),
  fun K => decide (PySem.W.nsIn K mainGlobals "need_amount" = some (some (.ref (He.ga K "need_amount")))),
  fun K => decide (PySem.W.nsIn K mainGlobals "Closed" = some (some (.ref (He.ga K "Closed")))),
  fun K => decide (PySem.W.nsIn K mainGlobals "law" = some (some (.ref (He.ga K "law")))),
  fun K => decide (PySem.W.findIn K (.ref (He.ga K "Office")) "__init__" = some (some (.ref (He.ma K (He.ga K "Office") "__init__")))),
  fun K => decide (PySem.W.findIn K (.ref (He.ga K "CappedOffice")) "__init__" = some (some (.ref (He.ma K (He.ga K "CappedOffice") "__init__")))),
  fun K => decide (PySem.W.findIn K (.ref (He.ga K "CappedOffice")) "source" = some (some (.ref (He.ma K (He.ga K "Office") "source")))),
  fun K => decide (PySem.W.findIn K (.ref (He.ga K "Office")) "source" = some (some (.ref (He.ma K (He.ga K "Office") "source")))),
  fun K => decide (PySem.W.findIn K (.ref (He.ga K "CappedOffice")) "goal" = some (some (.ref (He.ma K (He.ga K "Office") "goal")))),
  fun K => decide (PySem.W.findIn K (.ref (He.ga K "Office")) "goal" = some (some (.ref (He.ma K (He.ga K "Office") "goal")))),
  fun K => decide (PySem.W.findIn K (.ref (He.ga K "Route")) "__init__" = some (some (.ref (He.ma K (He.ga K "Route") "__init__")))),
  fun K => decide (PySem.W.findIn K (.ref (He.ga K "Route")) (PySem.dunder "add") = some (some (.ref (He.ma K (He.ga K "Route") "__add__")))),
  fun K => decide (PySem.W.findIn K (.ref (He.ga K "CappedOffice")) "result" = some (some (.ref (He.ma K (He.ga K "CappedOffice") "result")))),
  fun K => decide (PySem.W.findIn K (.ref (He.ga K "Office")) "result" = some (some (.ref (He.ma K (He.ga K "Office") "result")))),
  fun K => decide (PySem.W.findIn K (.ref (He.ga K "Route")) "result" = some (some (.ref (He.ma K (He.ga K "Route") "result")))),
  fun K => decide (PySem.W.findIn K (.ref (He.ga K "Closed")) "__init__" = some (some (.ref (He.ma K (He.ga K "Closed") "__init__")))),
  fun K => decide (PySem.W.findIn K (.ref (He.ga K "Route")) "holdings" = some (some (.ref (He.ma K (He.ga K "Route") "holdings")))),
  fun K => decide (PySem.W.findIn K (.ref (He.ga K "Route")) "__call__" = some (some (.ref (He.ma K (He.ga K "Route") "__call__")))),
  fun K => decide (PySem.W.findIn K (.ref (He.ga K "CappedOffice")) "__call__" = some (some (.ref (He.ma K (He.ga K "Office") "__call__")))),
  fun K => decide (PySem.W.findIn K (.ref (He.ga K "Office")) "__call__" = some (some (.ref (He.ma K (He.ga K "Office") "__call__")))),
  fun K => Hs.pfB K (He.ma K (He.ga K "Office") "source"),
  fun K => Hs.pfB K (He.ma K (He.ga K "Office") "goal"),
  fun K => Hs.excB K (He.ga K "Closed") [.type "RuntimeError", .type "Exception", .type "BaseException", .type "object"] "RuntimeError.__new__",
  fun K => decide (PySem.W.nsIn K mainGlobals "list" = some none),
  fun K => PySem.W.keepIn K (.ref (He.ga K "_law_pen")),
  fun K => decide (PySem.W.nsIn K mainGlobals "range" = some none),
  fun K => decide (PySem.W.nsIn K mainGlobals "int" = some none),
  fun K => decide (PySem.W.nsIn K mainGlobals "len" = some none),
  fun K => decide (PySem.W.nsIn K mainGlobals "abs" = some none),
  fun K => PySem.W.keepIn K (.ref (He.ga K "_law_draw")),
  fun K => PySem.W.keepIn K (.ref (He.ga K "_law_pick")),
  fun K => PySem.W.keepIn K (.ref (He.ga K "_law_names")),
  fun K => PySem.W.keepIn K (.ref (He.ga K "_law_digits")),
  fun K => decide (PySem.W.nsIn K mainGlobals "min" = some none),
  fun K => PySem.W.keepIn K (.ref (He.ga K "_law_row")),
  fun K => PySem.W.keepIn K (.ref (He.ga K "_law_chain")),
  fun K => Hs.strO "abcdefghijklmnopqrstuvwxyz" (PySem.W.nsIn K mainGlobals "ALPHABET"),
  fun K => decide (PySem.W.nsIn K mainGlobals "all" = some none),
  fun K => Hs.intO (8) (PySem.W.nsIn K mainGlobals "LETTERS"),
  fun K => decide (PySem.W.nsIn K mainGlobals "isinstance" = some none),
  fun K => decide (PySem.W.nsIn K mainGlobals "str" = some none),
  fun K => PySem.W.keepIn K (.ref (He.ga K "is_name")),
  fun K => PySem.W.keepIn K (.ref (He.ga K "need_name")),
  fun K => decide (PySem.W.nsIn K mainGlobals "tuple" = some none),
  fun K => decide (PySem.W.nsIn K mainGlobals "bool" = some none),
  fun K => PySem.W.keepIn K (.ref (He.ga K "is_integer")),
  fun K => PySem.W.readsIn K (He.ga K "Office") (.type "type"),
  fun K => decide (PySem.W.specialIn K (.ref (He.ga K "Office")) "__getattribute__" = some (some (.builtin "type.__getattribute__"))),
  fun K => Hs.catO (9) (PySem.W.findCls K (.ref (He.ga K "Office")) (.type "type") "RATE"),
  fun K => PySem.W.keepIn K (.ref (He.ga K "is_rate")),
  fun K => PySem.W.keepIn K (.ref (He.ga K "need_integer")),
  fun K => PySem.W.plainGet K (He.ga K "CappedOffice") Str.empty,
  fun K => PySem.W.hasDictIn K (He.ga K "CappedOffice"),
  fun K => PySem.W.plainOver K (He.ga K "CappedOffice"),
  fun K => decide (PySem.W.findIn K (.ref (He.ga K "CappedOffice")) "__setattr__" = some (some (.builtin "object.__setattr__"))),
  fun K => Hs.intO (20) (PySem.W.findIn K (.ref (He.ga K "CappedOffice")) "FEE"),
  fun K => PySem.W.plainGet K (He.ga K "Office") Str.empty,
  fun K => PySem.W.hasDictIn K (He.ga K "Office"),
  fun K => PySem.W.plainOver K (He.ga K "Office"),
  fun K => decide (PySem.W.findIn K (.ref (He.ga K "Office")) "__setattr__" = some (some (.builtin "object.__setattr__"))),
  fun K => Hs.intO (20) (PySem.W.findIn K (.ref (He.ga K "Office")) "FEE"),
  fun K => Hs.intO (1000) (PySem.W.findIn K (.ref (He.ga K "CappedOffice")) "LEAST"),
  fun K => Hs.intO (1000) (PySem.W.findIn K (.ref (He.ga K "Office")) "LEAST"),
  fun K => decide (PySem.W.findIn K (.ref (He.ga K "CappedOffice")) "name" = some none),
  fun K => decide (PySem.W.findIn K (.ref (He.ga K "Office")) "name" = some none),
  fun K => decide (PySem.W.findIn K (.ref (He.ga K "CappedOffice")) "own_ends" = some none),
  fun K => decide (PySem.W.findIn K (.ref (He.ga K "Office")) "own_ends" = some none),
  fun K => decide (PySem.W.findIn K (.ref (He.ga K "CappedOffice")) "own_rate" = some none),
  fun K => decide (PySem.W.findIn K (.ref (He.ga K "Office")) "own_rate" = some none),
  fun K => decide (PySem.W.findIn K (.ref (He.ga K "CappedOffice")) "own_fee" = some none),
  fun K => decide (PySem.W.findIn K (.ref (He.ga K "Office")) "own_fee" = some none),
  fun K => decide (PySem.W.findIn K (.ref (He.ga K "CappedOffice")) "own_least" = some none),
  fun K => decide (PySem.W.findIn K (.ref (He.ga K "Office")) "own_least" = some none),
  fun K => PySem.W.keepIn K (.ref (He.ma K (He.ga K "Office") "__init__")),
  fun K => PySem.W.makesIn K (He.ga K "Office"),
  fun K => PySem.W.isFn K (.ref (He.ma K (He.ga K "Office") "__init__")),
  fun K => PySem.W.keepIn K (.ref (He.ga K "Office")),
  fun K => decide (PySem.W.mroIn K (He.ga K "CappedOffice") (.ref (He.ga K "CappedOffice")) = some true),
  fun K => decide (PySem.W.ks_superIn K (He.ga K "CappedOffice") (He.ga K "CappedOffice") "__init__" = some (some (.ref (He.ma K (He.ga K "Office") "__init__")))),
  fun K => decide (PySem.W.typeIn K (.ref (He.ma K (He.ga K "Office") "__init__")) = some (.type "function")),
  fun K => PySem.W.fnIn K (He.ma K (He.ga K "Office") "__init__"),
  fun K => decide (PySem.W.nsIn K cStatics "thirdparty.any" = some none),
  fun K => Hs.intO (1000000) (PySem.W.findIn K (.ref (He.ga K "CappedOffice")) "MOST"),
  fun K => decide (PySem.W.findIn K (.ref (He.ga K "CappedOffice")) "own_most" = some none),
  fun K => Hs.mroB K (He.ga K "CappedOffice") [.ref (He.ga K "CappedOffice"), .ref (He.ga K "Office"), .type "object"],
  fun K => decide (PySem.W.nsIn K mainGlobals "super" = some none),
  fun K => PySem.W.makesIn K (He.ga K "CappedOffice"),
  fun K => PySem.W.isFn K (.ref (He.ma K (He.ga K "CappedOffice") "__init__")),
  fun K => PySem.W.keepIn K (.ref (He.ga K "CappedOffice")),
  fun K => PySem.W.keepIn K (.ref (He.ga K "_law_made")),
  fun K => decide (PySem.W.kitOne K (.type "NoneType") (.ref (He.ga K "Office")) = some false),
  fun K => decide (PySem.W.kitOne K (.type "bool") (.ref (He.ga K "Office")) = some false),
  fun K => decide (PySem.W.kitOne K (.type "int") (.ref (He.ga K "Office")) = some false),
  fun K => decide (PySem.W.kitOne K (.type "str") (.ref (He.ga K "Office")) = some false),
  fun K => decide (PySem.W.kitOne K (.type "tuple") (.ref (He.ga K "Office")) = some false),
  fun K => decide (PySem.W.kitOne K (.type "list") (.ref (He.ga K "Office")) = some false),
  fun K => decide (PySem.W.kitOne K (.type "dict") (.ref (He.ga K "Office")) = some false),
  fun K => PySem.W.plainGet K (He.ga K "Route") Str.empty,
  fun K => PySem.W.hasDictIn K (He.ga K "Route"),
  fun K => PySem.W.plainOver K (He.ga K "Route"),
  fun K => decide (PySem.W.findIn K (.ref (He.ga K "Route")) "__setattr__" = some (some (.builtin "object.__setattr__"))),
  fun K => decide (PySem.W.findIn K (.ref (He.ga K "Route")) "__class__" = some (some (.builtin "object.__class__"))),
  fun K => decide (PySem.W.specialIn K (.builtin "object.__class__") "__get__" = some (some (.builtin "getset_descriptor.__get__"))),
  fun K => decide (PySem.W.takesIn K (.builtin "object.__class__") = some true),
  fun K => decide (PySem.W.mroIn K (He.ga K "Route") (.type "object") = some true),
  fun K => decide (PySem.W.kitOne K (.ref (He.ga K "Route")) (.ref (He.ga K "Route")) = some true),
  fun K => decide (PySem.W.kitOne K (.ref (He.ga K "Route")) (.ref (He.ga K "Office")) = some false),
  fun K => decide (PySem.W.findIn K (.ref (He.ga K "CappedOffice")) "__class__" = some (some (.builtin "object.__class__"))),
  fun K => decide (PySem.W.mroIn K (He.ga K "CappedOffice") (.type "object") = some true),
  fun K => decide (PySem.W.kitOne K (.ref (He.ga K "CappedOffice")) (.ref (He.ga K "CappedOffice")) = some true),
  fun K => decide (PySem.W.kitOne K (.ref (He.ga K "CappedOffice")) (.ref (He.ga K "Office")) = some true),
  fun K => decide (PySem.W.findIn K (.ref (He.ga K "Office")) "__class__" = some (some (.builtin "object.__class__"))),
  fun K => decide (PySem.W.mroIn K (He.ga K "Office") (.type "object") = some true),
  fun K => decide (PySem.W.kitOne K (.ref (He.ga K "Office")) (.ref (He.ga K "Office")) = some true),
  fun K => decide (PySem.W.nsIn K mainGlobals "enumerate" = some none),
  fun K => decide (PySem.W.specialIn K (.ref (He.ma K (He.ga K "Office") "source")) "__get__" = some (some (.builtin "property.__get__"))),
  fun K => decide (PySem.W.takesIn K (.ref (He.ma K (He.ga K "Office") "source")) = some true),
  fun K => PySem.W.keepIn K (.ref (Hs.pf K (He.ma K (He.ga K "Office") "source"))),
  fun K => decide (PySem.W.specialIn K (.ref (He.ma K (He.ga K "Office") "goal")) "__get__" = some (some (.builtin "property.__get__"))),
  fun K => decide (PySem.W.takesIn K (.ref (He.ma K (He.ga K "Office") "goal")) = some true),
  fun K => PySem.W.keepIn K (.ref (Hs.pf K (He.ma K (He.ga K "Office") "goal"))),
  fun K => Hs.intO (1000) (PySem.W.findIn K (.ref (He.ga K "Route")) "LENGTH"),
  fun K => decide (PySem.W.findIn K (.ref (He.ga K "Route")) "own_start" = some none),
  fun K => decide (PySem.W.findIn K (.ref (He.ga K "Route")) "own_end" = some none),
  fun K => decide (PySem.W.findIn K (.ref (He.ga K "Route")) "own_offices" = some none),
  fun K => PySem.W.keepIn K (.ref (He.ma K (He.ga K "Route") "__init__")),
  fun K => PySem.W.makesIn K (He.ga K "Route"),
  fun K => PySem.W.isFn K (.ref (He.ma K (He.ga K "Route") "__init__")),
  fun K => PySem.W.keepIn K (.ref (He.ga K "Route")),
  fun K => PySem.W.keepIn K (.ref (He.ma K (He.ga K "Route") "__add__")),
  fun K => PySem.W.selfFirst K (He.ga K "Route"),
  fun K => PySem.W.isFn K (.ref (He.ma K (He.ga K "Route") "__add__")),
  fun K => decide ((Value.ref (He.ga K "Route") == Value.ref (He.ga K "CappedOffice")) = false),
  fun K => decide (PySem.W.findIn K (.type "object") (PySem.dunder "add") = some none),
  fun K => decide (PySem.W.findIn K (.type "object") (dunderR "add") = some none),
  fun K => decide (PySem.W.findIn K (.ref (He.ga K "Office")) (PySem.dunder "add") = some none),
  fun K => decide (PySem.W.findIn K (.ref (He.ga K "Office")) (dunderR "add") = some none),
  fun K => decide (PySem.W.findIn K (.ref (He.ga K "CappedOffice")) (PySem.dunder "add") = some none),
  fun K => decide (PySem.W.findIn K (.ref (He.ga K "CappedOffice")) (dunderR "add") = some none),
  fun K => decide ((Value.ref (He.ga K "Route") == Value.ref (He.ga K "Office")) = false),
  fun K => Hs.mroB K (He.ga K "Office") [.ref (He.ga K "Office"), .type "object"],
  fun K => PySem.W.keepIn K (.ref (He.ga K "_law_route")),
  fun K => decide (PySem.W.nsIn K mainGlobals "max" = some none),
  fun K => PySem.W.keepIn K (.ref (He.ga K "_law_amount")),
  fun K => PySem.W.keepIn K (.ref (He.ga K "_law_route_amount")),
  fun K => PySem.W.keepIn K (.ref (He.ga K "_law_is_plain")),
  fun K => Hs.intO (1000000000000000000000000000000) (PySem.W.nsIn K mainGlobals "COINS"),
  fun K => PySem.W.keepIn K (.ref (He.ga K "need_amount")),
  fun K => decide (PySem.W.ks_superIn K (He.ga K "CappedOffice") (He.ga K "CappedOffice") "result" = some (some (.ref (He.ma K (He.ga K "Office") "result")))),
  fun K => decide (PySem.W.typeIn K (.ref (He.ma K (He.ga K "Office") "result")) = some (.type "function")),
  fun K => PySem.W.fnIn K (He.ma K (He.ga K "Office") "result"),
  fun K => PySem.W.keepIn K (.ref (He.ma K (He.ga K "Office") "result")),
  fun K => PySem.W.isFn K (.ref (He.ma K (He.ga K "CappedOffice") "result")),
  fun K => PySem.W.keepIn K (.ref (He.ma K (He.ga K "CappedOffice") "result")),
  fun K => PySem.W.isFn K (.ref (He.ma K (He.ga K "Office") "result")),
  fun K => PySem.W.isFn K (.ref (He.ma K (He.ga K "Route") "result")),
  fun K => PySem.W.keepIn K (.ref (He.ma K (He.ga K "Route") "result")),
  fun K => PySem.W.keepIn K (.ref (He.ma K (He.ga K "Closed") "__init__")),
  fun K => decide (PySem.W.findIn K (.ref (He.ga K "Closed")) "__setattr__" = some (some (.builtin "object.__setattr__"))),
  fun K => decide (PySem.W.subIn K (.ref (He.ga K "Closed")) (.type "BaseException") = some true),
  fun K => decide (PySem.W.typeIn K (.ref (He.ga K "Closed")) = some (.type "type")),
  fun K => PySem.W.keepIn K (.ref (He.ga K "Closed")),
  fun K => decide (PySem.W.typeIn K (.ref (He.ma K (He.ga K "Closed") "__init__")) = some (.type "function")),
  fun K => decide (PySem.W.findIn K (.ref (He.ga K "Closed")) "name" = some none),
  fun K => Hs.cvalO (.builtin "RuntimeError.__init__") (PySem.W.findCls K (.type "RuntimeError") (.type "type") "__init__"),
  fun K => decide (PySem.W.nsIn K mainGlobals "RuntimeError" = some none),
  fun K => decide (PySem.W.subIn K (.ref (He.ga K "Closed")) (.type "StopIteration") = some false),
  fun K => PySem.W.isFn K (.ref (He.ma K (He.ga K "Route") "holdings")),
  fun K => PySem.W.keepIn K (.ref (He.ma K (He.ga K "Route") "holdings")),
  fun K => PySem.W.isFn K (.ref (He.ma K (He.ga K "Route") "__call__")),
  fun K => PySem.W.fnIn K (He.ma K (He.ga K "Route") "__call__"),
  fun K => PySem.W.keepIn K (.ref (He.ma K (He.ga K "Route") "__call__")),
  fun K => PySem.W.isFn K (.ref (He.ma K (He.ga K "Office") "__call__")),
  fun K => PySem.W.fnIn K (He.ma K (He.ga K "Office") "__call__"),
  fun K => PySem.W.keepIn K (.ref (He.ma K (He.ga K "Office") "__call__")),
  fun K => PySem.W.keepIn K (.ref (He.ga K "law"))]
def fns : List Hs.Df := [
  ⟨fun K => (He.ga K "law"), "law", "law", s_law, [], 0⟩,
  ⟨fun K => (He.ga K "_law_pen"), "_law_pen", "_law_pen", s_law_pen, [], 0⟩,
  ⟨fun K => (He.ga K "_law_chain"), "_law_chain", "_law_chain", s_law_chain, [], 0⟩,
  ⟨fun K => (He.ga K "_law_names"), "_law_names", "_law_names", s_law_names, [], 0⟩,
  ⟨fun K => (He.ga K "_law_draw"), "_law_draw", "_law_draw", s_law_draw, [], 0⟩,
  ⟨fun K => (He.ga K "_law_pick"), "_law_pick", "_law_pick", s_law_pick, [], 0⟩,
  ⟨fun K => (He.ga K "_law_row"), "_law_row", "_law_row", s_law_row, [], 0⟩,
  ⟨fun K => (He.ga K "_law_digits"), "_law_digits", "_law_digits", s_law_digits, [], 0⟩,
  ⟨fun K => (He.ga K "_law_route"), "_law_route", "_law_route", s_law_route, [], 0⟩,
  ⟨fun K => (He.ga K "_law_made"), "_law_made", "_law_made", s_law_made, [], 0⟩,
  ⟨fun K => (He.ma K (He.ga K "Office") "__init__"), "__init__", "Office.__init__", s_Office_init, [], 0⟩,
  ⟨fun K => (He.ga K "need_name"), "need_name", "need_name", s_need_name, [], 0⟩,
  ⟨fun K => (He.ga K "is_name"), "is_name", "is_name", s_is_name, [], 0⟩,
  ⟨fun K => (He.ga K "is_rate"), "is_rate", "is_rate", s_is_rate, [], 0⟩,
  ⟨fun K => (He.ga K "is_integer"), "is_integer", "is_integer", s_is_integer, [], 0⟩,
  ⟨fun K => (He.ga K "need_integer"), "need_integer", "need_integer", s_need_integer, [], 0⟩,
  ⟨fun K => (He.ma K (He.ga K "CappedOffice") "__init__"), "__init__", "CappedOffice.__init__", s_CappedOffice_init, ["__class__"], 0⟩,
  ⟨fun K => (He.ma K (He.ga K "Route") "__init__"), "__init__", "Route.__init__", s_Route_init, [], 0⟩,
  ⟨fun K => (Hs.pf K (He.ma K (He.ga K "Office") "source")), "source", "Office.source", s_Office_source, [], 0⟩,
  ⟨fun K => (Hs.pf K (He.ma K (He.ga K "Office") "goal")), "goal", "Office.goal", s_Office_goal, [], 0⟩,
  ⟨fun K => (He.ma K (He.ga K "Route") "__add__"), "__add__", "Route.__add__", s_Route_add, [], 0⟩,
  ⟨fun K => (He.ga K "_law_route_amount"), "_law_route_amount", "_law_route_amount", s_law_route_amount, [], 0⟩,
  ⟨fun K => (He.ga K "_law_amount"), "_law_amount", "_law_amount", s_law_amount, [], 0⟩,
  ⟨fun K => (He.ga K "_law_is_plain"), "_law_is_plain", "_law_is_plain", s_law_is_plain, [], 0⟩,
  ⟨fun K => (He.ma K (He.ga K "Office") "__call__"), "__call__", "Office.__call__", s_Office_call, [], 0⟩,
  ⟨fun K => (He.ga K "need_amount"), "need_amount", "need_amount", s_need_amount, [], 0⟩,
  ⟨fun K => (He.ma K (He.ga K "Office") "result"), "result", "Office.result", s_Office_result, [], 0⟩,
  ⟨fun K => (He.ma K (He.ga K "CappedOffice") "result"), "result", "CappedOffice.result", s_CappedOffice_result, ["__class__"], 0⟩,
  ⟨fun K => (He.ma K (He.ga K "Route") "result"), "result", "Route.result", s_Route_result, [], 0⟩,
  ⟨fun K => (He.ma K (He.ga K "Closed") "__init__"), "__init__", "Closed.__init__", s_Closed_init, [], 0⟩,
  ⟨fun K => (He.ma K (He.ga K "Route") "__call__"), "__call__", "Route.__call__", s_Route_call, [], 0⟩,
  ⟨fun K => (He.ma K (He.ga K "Route") "holdings"), "holdings", "Route.holdings", s_Route_holdings, [], 0⟩]
abbrev hk : PySem.W.Hook := Hs.hook 4000 ex fns
def ob (s : PySem.W.SharedT) : Hs.Al := Hs.obsG 4000 ex fns (HandSHeadRun.getT s)
theorem ob_eq (s : PySem.W.SharedT) : ob s = hk.obs s.abs := Hs.obsG_eq
theorem run (w : World) : HandSHeadRun.RunEq R (PySem.W.view R.prog [45]) hk ob 40000 nms w := by
  intro os
  kernel_rfl
end Lw
/-! Den1: a law's code as a computation over values: what the heap holds is said once, here. -/
namespace Dn
open PySem L2
/-- a value as data -/
inductive PV where
  | non | bl (b : Bool) | int (i : Int) | str (s : Str) | tup (xs : List PV) | lst (xs : List PV) | scr (xs : List Int) | hnd (n : Nat) | obj (c : Str) (ks : List Str) (vs : List PV) | exn (c : Str) (ks : List Str) (vs : List PV) | dic (kvs : List (Str × Int)) | dct (ks : List Key) (vs : List PV) | kt (ks : List Key)
/-- what a handle holds: a dict that changes -/
inductive MO where
  | dic (kvs : List (Key × PV))
  | ins (c : Str) (ks : List Str) (vs : List PV)
  | own (n : Nat)
  | dtt (kvs : List (List Key × PV))
  | gone
/-- what is frozen, and where the handles stand -/
structure Vw where
  F : Hp
  hs : List Addr
structure Vw.Le (W W' : Vw) : Prop where
  ex : Same W.F W'.F
  pre : ∀ (n : Nat) (a : Addr), W.hs[n]? = some a → W'.hs[n]? = some a
theorem Vw.Le.refl (W : Vw) : W.Le W := ⟨Same.refl _, fun _ _ h => h⟩
theorem Vw.Le.trans {W W1 W2 : Vw} (a : W.Le W1) (b : W1.Le W2) : W.Le W2 := ⟨a.ex.trans b.ex, fun n x h => b.pre n x (a.pre n x h)⟩
/-- an exception object as a tracked thing: its class, its dict -/
def exv (a : Addr) (cls : Value) (d : Option Addr) : HO := .ext fun h => ∃ (oe : Obj) (vs : Array Value), h.get? a = some oe ∧ Zc cls d oe ∧ oe.data = .fields vs
/-- the class of that name -/
def ClsAt (K : PySem.W.Frag) (c : Str) (C : Addr) : Prop := PySem.W.nsIn K mainGlobals c = some (some (.ref C))
mutual
inductive Rep (K : PySem.W.Frag) (W : Vw) : V → PV → Prop
  | non : Rep K W .non .non
  | bl (b : Bool) : Rep K W (.bl b) (.bl b)
  | int (i : Int) : Rep K W (.int i) (.int i)
  | str (s : Str) : Rep K W (.str s) (.str s)
  | tup {a : Addr} {vs : List V} {ds : List PV} : SqT K W.F a vs → Reps K W vs ds → Rep K W (.ref a) (.tup ds)
  | lst {a : Addr} {vs : List V} {ds : List PV} : W.F a = some (.lst vs) → Reps K W vs ds → Rep K W (.ref a) (.lst ds)
  | scr {a : Addr} {ns : List Int} : SqL K W.F a (ns.map V.int) → Rep K W (.ref a) (.scr ns)
  | hnd {a : Addr} {n : Nat} : W.hs[n]? = some a → Rep K W (.ref a) (.hnd n)
  | obj {x C dx : Addr} {c : Str} {ks : List Str} {us : List V} {vs : List PV} : ClsAt K c C → W.F x = some (.ins C dx (ks.zip us)) → W.F dx = some (.own x) → ks.length = vs.length → Reps K W us vs → Rep K W (.ref x) (.obj c ks vs)
  | exn {x C dx : Addr} {c : Str} {ks : List Str} {us : List V} {vs : List PV} : ClsAt K c C → W.F x = some (exv x (.ref C) (some dx)) → W.F dx = some (.xd (ks.zip us)) → ks.length = vs.length → Reps K W us vs → Rep K W (.ref x) (.exn c ks vs)
  | dic {a : Addr} {kvs : List (Str × Int)} : W.F a = some (.dK (kvs.map fun p => (Sum.inr p.1, V.int p.2))) → Rep K W (.ref a) (.dic kvs)
  | dct {a : Addr} {o : Obj} {ks : List Key} {us : List V} {vs : List PV} : W.F a = some (.frz o (.dK (ks.zip us))) → ks.length = vs.length → Reps K W us vs → Rep K W (.ref a) (.dct ks vs)
  | kt {a : Addr} {ks : List Key} : W.F a = some (.tup (ks.map kV)) → Rep K W (.ref a) (.kt ks)
inductive Reps (K : PySem.W.Frag) (W : Vw) : List V → List PV → Prop
  | nil : Reps K W [] []
  | cons {v : V} {vs : List V} {d : PV} {ds : List PV} : Rep K W v d → Reps K W vs ds → Reps K W (v :: vs) (d :: ds)
end
theorem same_t {K : PySem.W.Frag} {H H' : Hp} {a : Addr} {xs : List V} (e : Same H H') (h : SqT K H a xs) : SqT K H' a xs := by
  rcases h with (h | ⟨o, h⟩) | h
  · exact .inl (.inl (e _ _ h))
  · exact .inl (.inr ⟨o, e _ _ h⟩)
  · exact .inr h
mutual
theorem Rep.mono {K : PySem.W.Frag} {W W' : Vw} (l : W.Le W') : ∀ {v : V} {d : PV}, Rep K W v d → Rep K W' v d
  | _, _, .non => .non
  | _, _, .bl b => .bl b
  | _, _, .int i => .int i
  | _, _, .str s => .str s
  | _, _, .tup h r => .tup (same_t l.ex h) (Reps.mono l r)
  | _, _, .lst h r => .lst (l.ex _ _ h) (Reps.mono l r)
  | _, _, .scr h => .scr (l.ex.seq h)
  | _, _, .hnd h => .hnd (l.pre _ _ h)
  | _, _, .obj c h d n r => .obj c (l.ex _ _ h) (l.ex _ _ d) n (Reps.mono l r)
  | _, _, .exn c h d n r => .exn c (l.ex _ _ h) (l.ex _ _ d) n (Reps.mono l r)
  | _, _, .dic h => .dic (l.ex _ _ h)
  | _, _, .dct h n r => .dct (l.ex _ _ h) n (Reps.mono l r)
  | _, _, .kt h => .kt (l.ex _ _ h)
theorem Reps.mono {K : PySem.W.Frag} {W W' : Vw} (l : W.Le W') : ∀ {vs : List V} {ds : List PV}, Reps K W vs ds → Reps K W' vs ds
  | _, _, .nil => .nil
  | _, _, .cons h r => .cons (Rep.mono l h) (Reps.mono l r)
end
section
variable {K : PySem.W.Frag} {W : Vw}
theorem Reps.length : ∀ {vs : List V} {ds : List PV}, Reps K W vs ds → vs.length = ds.length
  | _, _, .nil => rfl
  | _, _, .cons _ r => congrArg Nat.succ (Reps.length r)
theorem Reps.append : ∀ {vs ws : List V} {ds es : List PV}, Reps K W vs ds → Reps K W ws es → Reps K W (vs ++ ws) (ds ++ es)
  | _, _, _, _, .nil, s => s
  | _, _, _, _, .cons h r, s => .cons h (Reps.append r s)
theorem Reps.get : ∀ {vs : List V} {ds : List PV} {i : Nat} {d : PV}, Reps K W vs ds → ds[i]? = some d → ∃ v, vs[i]? = some v ∧ Rep K W v d
  | _, _, i, _, .nil, e => by simp at e
  | _, _, 0, _, .cons h _, e => by simp at e; subst e; exact ⟨_, rfl, h⟩
  | _, _, i + 1, d, .cons _ r, e => by
    obtain ⟨v, h1, h2⟩ := Reps.get (i := i) (d := d) r (by simpa using e)
    exact ⟨v, by simpa using h1, h2⟩
theorem Reps.getV : ∀ {vs : List V} {ds : List PV} {i : Nat} {v : V}, Reps K W vs ds → vs[i]? = some v → ∃ d, ds[i]? = some d ∧ Rep K W v d
  | _, _, i, _, .nil, e => by simp at e
  | _, _, 0, _, .cons h _, e => by simp at e; subst e; exact ⟨_, rfl, h⟩
  | _, _, i + 1, d, .cons _ r, e => by
    obtain ⟨v, h1, h2⟩ := Reps.getV (i := i) (v := d) r (by simpa using e)
    exact ⟨v, by simpa using h1, h2⟩
theorem Reps.take : ∀ {vs : List V} {ds : List PV} (n : Nat), Reps K W vs ds → Reps K W (vs.take n) (ds.take n)
  | _, _, 0, _ => .nil
  | _, _, _ + 1, .nil => .nil
  | _, _, n + 1, .cons h r => .cons h (Reps.take n r)
theorem Reps.drop : ∀ {vs : List V} {ds : List PV} (n : Nat), Reps K W vs ds → Reps K W (vs.drop n) (ds.drop n)
  | _, _, 0, r => r
  | _, _, _ + 1, .nil => .nil
  | _, _, n + 1, .cons _ r => Reps.drop n r
theorem Reps.set {v : V} {d : PV} (q : Rep K W v d) : ∀ {vs : List V} {ds : List PV} (n : Nat), Reps K W vs ds → Reps K W (vs.set n v) (ds.set n d)
  | _, _, _, .nil => .nil
  | _, _, 0, .cons _ r => .cons q r
  | _, _, n + 1, .cons h r => .cons h (Reps.set q n r)
theorem Reps.rep {vs : List V} {ds : List PV} (r : Reps K W vs ds) : ∀ n : Nat, Reps K W (List.replicate n vs).flatten (List.replicate n ds).flatten
  | 0 => .nil
  | n + 1 => by
    rw [List.replicate_succ, List.replicate_succ, List.flatten_cons, List.flatten_cons]
    exact r.append (Reps.rep r n)
theorem Reps.ints : ∀ (ns : List Int), Reps K W (ns.map V.int) (ns.map PV.int)
  | [] => .nil
  | n :: ns => .cons (.int n) (Reps.ints ns)
/-- the values of texts are texts -/
theorem Reps.of_strs : ∀ {vs : List V} {ns : List Str}, Reps K W vs (ns.map PV.str) → vs = ns.map V.str
  | _, [], .nil => rfl
  | _, n :: ns, .cons h r => by
    cases h
    rw [Reps.of_strs r]
    rfl
theorem Reps.of_bls : ∀ {vs : List V} {ns : List Bool}, Reps K W vs (ns.map PV.bl) → vs = ns.map V.bl
  | _, [], .nil => rfl
  | _, n :: ns, .cons h r => by
    cases h
    rw [Reps.of_bls r]
    rfl
end
/-! ### a dict's pairs -/
inductive KVs {κ : Type} (K : PySem.W.Frag) (W : Vw) : List (κ × V) → List (κ × PV) → Prop
  | nil : KVs K W [] []
  | cons {k : κ} {v : V} {d : PV} {r : List (κ × V)} {s : List (κ × PV)} : Rep K W v d → KVs K W r s → KVs K W ((k, v) :: r) ((k, d) :: s)
theorem KVs.mono {κ : Type} {K : PySem.W.Frag} {W W' : Vw} (l : W.Le W') : ∀ {r : List (κ × V)} {s : List (κ × PV)}, KVs K W r s → KVs K W' r s
  | _, _, .nil => .nil
  | _, _, .cons h r => .cons (h.mono l) (KVs.mono l r)
/-- what a handle's object is in the heap -/
inductive MRep (K : PySem.W.Frag) (W : Vw) (H : Hp) (a : Addr) : MO → Prop
  | dic {kvs : List (Key × V)} {ds : List (Key × PV)} : H a = some (.dK kvs) → KVs K W kvs ds → MRep K W H a (.dic ds)
  | ins {C dx : Addr} {n : Nat} {c : Str} {ks : List Str} {us : List V} {vs : List PV} : ClsAt K c C → H a = some (.ins C dx (ks.zip us)) → W.hs[n]? = some a → W.hs[n + 1]? = some dx → ks.length = vs.length → Reps K W us vs → MRep K W H a (.ins c ks vs)
  | own {n : Nat} {x : Addr} : W.hs[n]? = some x → H a = some (.own x) → MRep K W H a (.own n)
  | dtt {kvs : List (List Key × V)} {ds : List (List Key × PV)} : H a = some (.dT kvs) → KVs K W kvs ds → MRep K W H a (.dtt ds)
/-! ### the state of a body -/
inductive SV where
  | val (d : PV)
  | own (xs : List PV)
abbrev Env := List (Option SV)
structure S where
  env : Env
  sto : List MO
structure Ctx where
  G : Hp
  F0 : Hp
  hs0 : List Addr
  X : WX
abbrev Ctx.wi (C : Ctx) (Y : WX) : Ctx := { C with X := Y }
/-- a handle's place: live, or frozen long ago -/
def Hd (K : PySem.W.Frag) (W : Vw) (st : List MO) (H : Hp) (n : Nat) (a : Addr) : Prop := (W.F a = none ∧ ∃ mo, st[n]? = some mo ∧ MRep K W H a mo) ∨ (W.F a ≠ none ∧ st[n]? = some .gone)
structure Okk (K : PySem.W.Frag) (W : Vw) (st : List MO) (H : Hp) : Prop where
  sub : Same W.F H
  hnd : ∀ (n : Nat) (a : Addr), W.hs[n]? = some a → Hd K W st H n a
  nd : W.hs.Nodup
  len : st.length = W.hs.length
structure Owns (C : Ctx) (W : Vw) (a : Addr) : Prop where
  f : W.F a = none
  h : a ∉ W.hs
  g : C.G a = none
structure At (K : PySem.W.Frag) (C : Ctx) (W : Vw) (s : S) (σ : L2.St) (H : Hp) : Prop where
  ok : Okk K W s.sto H
  keep : ∀ a o, C.G a = some o → a ∉ C.hs0 → H a = some o
  pre : ∀ (n : Nat) (a : Addr), C.hs0[n]? = some a → W.hs[n]? = some a
  gro : ∀ a, C.G a ≠ none → W.F a = C.F0 a ∧ (a ∈ W.hs → a ∈ C.hs0)
  len : σ.length = s.env.length
  val : ∀ (i : Nat) (d : PV), s.env[i]? = some (some (.val d)) → ∃ v, σ[i]? = some (some v) ∧ Rep K W v d
  own : ∀ (i : Nat) (xs : List PV), s.env[i]? = some (some (.own xs)) → ∃ a vs, σ[i]? = some (some (.ref a)) ∧ Owns C W a ∧ H a = some (.lst vs) ∧ Reps K W vs xs
  dst : ∀ (i j : Nat) (xs ys : List PV) (a : Addr), s.env[i]? = some (some (.own xs)) → s.env[j]? = some (some (.own ys)) → σ[i]? = some (some (.ref a)) → σ[j]? = some (some (.ref a)) → i = j
theorem At.wi {K : PySem.W.Frag} {C : Ctx} {W : Vw} {s : S} {σ : L2.St} {H : Hp} (h : At K C W s σ H) (Y : WX) : At K (C.wi Y) W s σ H := ⟨h.ok, h.keep, h.pre, h.gro, h.len, h.val, fun i xs e => let ⟨a, vs, e1, ow, r⟩ := h.own i xs e; ⟨a, vs, e1, ⟨ow.f, ow.h, ow.g⟩, r⟩, h.dst⟩
/-- an exception's object, as data -/
inductive ERep (K : PySem.W.Frag) (W : Vw) : Value → Option Addr → PV → Prop
  | own {C dx : Addr} {c : Str} {ks : List Str} {us : List V} {vs : List PV} : ClsAt K c C → W.F dx = some (.xd (ks.zip us)) → ks.length = vs.length → Reps K W us vs → ERep K W (.ref C) (some dx) (.obj c ks vs)
  | blt {T : String} {d : Option Addr} : ERep K W (.type T) d (.tup [.str T])
/-! ### computations -/
inductive Res (τ α : Type) where
  | ok (a : α) (s : τ)
  | exc (e : PV) (s : τ)
  | stk
abbrev M (α : Type) := S → Res S α
def bnd {α β : Type} (c : M α) (f : α → M β) : M β := fun s => match c s with
  | .ok a s' => f a s'
  | .exc e s' => .exc e s'
  | .stk => .stk
def ret {α : Type} (a : α) : M α := fun s => .ok a s
def stuck {α : Type} : M α := fun _ => .stk
/-- a partial answer -/
def lft {α : Type} (o : Option α) : M α := fun s => match o with
  | some a => .ok a s
  | none => .stk
section
variable {K : PySem.W.Frag} {C : Ctx} {W W' : Vw} {σ : L2.St} {H : Hp} {s : S} {α β : Type}
/-- what is wanted of an answer -/
def Pst (K : PySem.W.Frag) (C : Ctx) (W : Vw) (σ : L2.St) (r : Res S α) (Q : α → S → Vw → Hp → Prop) : Prop := match r with
  | .ok a s' => ∀ W' H', W.Le W' → At K C W' s' σ H' → Q a s' W' H'
  | .exc e s' => ∀ W' σ' H' cls d, W.Le W' → At K C W' s' σ' H' → ERep K W' cls d e → C.X cls d σ' H'
  | .stk => False
theorem Pst.imp {r : Res S α} {Q Q' : α → S → Vw → Hp → Prop} (h : Pst K C W σ r Q) (f : ∀ a s' W' H', W.Le W' → At K C W' s' σ H' → Q a s' W' H' → Q' a s' W' H') : Pst K C W σ r Q' := by
  cases r with
  | ok a s' => exact fun W' H' l at' => f a s' W' H' l at' (h W' H' l at')
  | exc => exact h
  | stk => exact h
theorem Pst.up {r : Res S α} {Q : α → S → Vw → Hp → Prop} (l : W.Le W') (h : Pst K C W σ r Q) : Pst K C W' σ r Q := by
  cases r with
  | ok a s' => exact fun W2 H2 l2 at2 => h W2 H2 (l.trans l2) at2
  | exc e s' => exact fun W2 σ2 H2 cls d l2 at2 r => h W2 σ2 H2 cls d (l.trans l2) at2 r
  | stk => exact h
theorem Pst.bnd {c : M α} {f : α → M β} {Q : β → S → Vw → Hp → Prop} (h : Pst K C W σ (bnd c f s) Q) : Pst K C W σ (c s) (fun a s1 W1 _ => Pst K C W1 σ (f a s1) Q) := by
  unfold Dn.bnd at h
  cases e : c s with
  | ok a s1 =>
    rw [e] at h
    exact fun W1 H1 l _ => h.up l
  | exc => rw [e] at h; exact h
  | stk => rw [e] at h; exact h
theorem Pst.lft {o : Option α} {Q : α → S → Vw → Hp → Prop} (h : Pst K C W σ (lft o s) Q) (at' : At K C W s σ H) : ∃ a, o = some a ∧ Q a s W H := by
  unfold Dn.lft at h
  cases o with
  | none => exact h.elim
  | some a => exact ⟨a, rfl, h W H (Vw.Le.refl W) at'⟩
/-- an expression's reading: it answers as c does -/
def den (K : PySem.W.Frag) (Y : WX) (c : M PV) : TE := fun σ H Q => ∃ (C : Ctx) (W : Vw) (s : S), At K (C.wi Y) W s σ H ∧ Pst K (C.wi Y) W σ (c s) (fun d _ W' H' => ∀ v, Rep K W' v d → Q v H')
/-- a test's -/
def denT (K : PySem.W.Frag) (Y : WX) (c : M Bool) : TT := fun σ H Q => ∃ (C : Ctx) (W : Vw) (s : S), At K (C.wi Y) W s σ H ∧ Pst K (C.wi Y) W σ (c s) (fun b _ _ H' => Q b H')
/-- arguments' -/
def denA (K : PySem.W.Frag) (Y : WX) (c : M (List PV)) : TA := fun σ H Q => ∃ (C : Ctx) (W : Vw) (s : S), At K (C.wi Y) W s σ H ∧ Pst K (C.wi Y) W σ (c s) (fun ds _ W' H' => ∀ vs, Reps K W' vs ds → Q vs H')
/-- an expression that makes a new list, nobody's yet -/
def denO (K : PySem.W.Frag) (Y : WX) (c : M (List PV)) : TE := fun σ H Q => ∃ (C : Ctx) (W : Vw) (s : S), At K (C.wi Y) W s σ H ∧ Pst K (C.wi Y) W σ (c s) (fun ds _ W' H' => ∀ p vs, H' p = none → Reps K W' vs ds → Q (.ref p) (upd H' p (.lst vs)))
inductive Fl where
  | nx | rt (d : PV) | bk | ct | ro (xs : List PV)
/-- a statement's: the slots may change -/
def PstS (K : PySem.W.Frag) (C : Ctx) (W : Vw) (D : Ends) (r : Res S Fl) : Prop := match r with
  | .ok fl s' => ∀ W' σ' H', W.Le W' → At K C W' s' σ' H' → (match fl with
    | .nx => D.nx σ' H'
    | .rt d => ∀ v, Rep K W' v d → D.rt v H'
    | .bk => D.bk σ' H'
    | .ct => D.ct σ' H'
    | .ro xs => ∀ a vs, Owns C W' a → H' a = some (.lst vs) → Reps K W' vs xs → D.rt (.ref a) H')
  | .exc e s' => ∀ W' σ' H' cls d, W.Le W' → At K C W' s' σ' H' → ERep K W' cls d e → C.X cls d σ' H'
  | .stk => False
def denS (K : PySem.W.Frag) (Y : WX) (c : M Fl) : TS := fun D σ H => ∃ (C : Ctx) (W : Vw) (s : S), At K (C.wi Y) W s σ H ∧ PstS K (C.wi Y) W D (c s)
end
theorem pe_imp {X : Cx} {e : Expr} {t t' : TE} (h : PE X e t) (f : ∀ σ H Q, t' σ H Q → t σ H Q) : PE X e t' := ⟨fun pins s σ H Q I q => h.run pins s σ H Q I (f σ H Q q)⟩
theorem pt_imp {X : Cx} {e : Expr} {t t' : TT} (h : PT X e t) (f : ∀ σ H Q, t' σ H Q → t σ H Q) : PT X e t' := ⟨fun pins s σ H Q I q => h.run pins s σ H Q I (f σ H Q q)⟩
theorem pw_imp {X : Cx} {e : Expr} {t t' : TT} (h : PW X e t) (f : ∀ σ H Q, t' σ H Q → t σ H Q) : PW X e t' := ⟨fun wh pins s σ H Q I q => h.run wh pins s σ H Q I (f σ H Q q)⟩
theorem pa_imp {X : Cx} {e : List Expr} {t t' : TA} (h : PA X e t) (f : ∀ σ H Q, t' σ H Q → t σ H Q) : PA X e t' := ⟨fun pos pins s σ H Q I q => h.run pos pins s σ H Q I (f σ H Q q)⟩
theorem ps_imp {X : Cx} {e : Stmt} {t t' : TS} (h : PS X e t) (f : ∀ D σ H, t' D σ H → t D σ H) : PS X e t' := ⟨fun pins s σ H D I q => h.run pins s σ H D I (f D σ H q)⟩
theorem pss_imp {X : Cx} {e : List Stmt} {t t' : TS} (h : PSs X e t) (f : ∀ D σ H, t' D σ H → t D σ H) : PSs X e t' := ⟨fun pins s σ H D I q => h.run pins s σ H D I (f D σ H q)⟩
/-! ### the state changes -/
section
variable {K : PySem.W.Frag} {C : Ctx} {W W' : Vw} {σ : L2.St} {H : Hp} {s : S} {p a : Addr} {o : HO} {vs : List V} {ds xs : List PV} {d : PV} {v : V} {i : Nat}
theorem MRep.some {mo : MO} (r : MRep K W H a mo) : ∃ o, H a = Option.some o := by
  cases r with
  | dic e k => exact ⟨_, e⟩
  | ins c e => exact ⟨_, e⟩
  | own n e => exact ⟨_, e⟩
  | dtt e k => exact ⟨_, e⟩
theorem Okk.some {st : List MO} {n : Nat} (h : Okk K W st H) (e : W.hs[n]? = Option.some a) : H a ≠ none := by
  rcases h.hnd n a e with ⟨_, mo, _, mr⟩ | ⟨f, _⟩
  · obtain ⟨o, e⟩ := mr.some
    rw [e]
    exact fun z => nomatch z
  · cases z : W.F a with
    | none => exact absurd z f
    | some o =>
      rw [h.sub a o z]
      exact fun z => nomatch z
theorem Okk.live {st : List MO} {n : Nat} {mo : MO} (h : Okk K W st H) (e : W.hs[n]? = Option.some a) (hs : st[n]? = Option.some mo) (hm : mo ≠ .gone) : W.F a = none ∧ MRep K W H a mo := by
  rcases h.hnd n a e with ⟨f, mo', e', mr⟩ | ⟨_, g⟩
  · rw [hs] at e'
    cases e'
    exact ⟨f, mr⟩
  · rw [hs] at g
    exact absurd (Option.some.inj g) hm
theorem At.fresh (h : At K C W s σ H) (hp : H p = none) : W.F p = none ∧ p ∉ W.hs ∧ C.G p = none := by
  refine ⟨h.ok.sub.free hp, fun hm => ?_, ?_⟩
  · obtain ⟨n, hn⟩ := List.getElem?_of_mem hm
    exact h.ok.some hn hp
  · cases e : C.G p with
    | none => rfl
    | some o =>
      by_cases hm : p ∈ C.hs0
      · obtain ⟨n, hn⟩ := List.getElem?_of_mem hm
        exact absurd hp (h.ok.some (h.pre n p hn))
      · have := h.keep p o e hm
        rw [hp] at this
        cases this
theorem MRep.mono {mo : MO} (l : W.Le W') (r : MRep K W H a mo) : MRep K W' H a mo := by
  cases r with
  | dic e k => exact .dic e (k.mono l)
  | ins c e n m k r => exact .ins c e (l.pre _ _ n) (l.pre _ _ m) k (r.mono l)
  | own n e => exact .own (l.pre _ _ n) e
  | dtt e k => exact .dtt e (k.mono l)
theorem MRep.at {mo : MO} {H' : Hp} (r : MRep K W H a mo) (e' : H' a = H a) : MRep K W H' a mo := by
  cases r with
  | dic e k => exact .dic (e'.trans e) k
  | ins c e n m k r => exact .ins c (e'.trans e) n m k r
  | own n e => exact .own n (e'.trans e)
  | dtt e k => exact .dtt (e'.trans e) k
theorem MRep.other {mo : MO} (r : MRep K W H a mo) (n : a ≠ p) : MRep K W (upd H p o) a mo := r.at (upd_ne n)
theorem Hd.map {st st' : List MO} {H' : Hp} {n m : Nat} (h : Hd K W st H n a) (hF : W'.F a = W.F a) (hs : st'[m]? = st[n]?) (f : ∀ mo, MRep K W H a mo → MRep K W' H' a mo) : Hd K W' st' H' m a := by
  rcases h with ⟨g1, mo, g2, g3⟩ | ⟨g1, g2⟩
  · exact .inl ⟨hF.trans g1, mo, hs.trans g2, f mo g3⟩
  · exact .inr ⟨by rw [hF]; exact g1, hs.trans g2⟩
/-- a new object laid and frozen at once -/
theorem At.lay (h : At K C W s σ H) (hp : H p = none) (o : HO) : W.Le ⟨upd W.F p o, W.hs⟩ ∧ At K C ⟨upd W.F p o, W.hs⟩ s σ (upd H p o) := by
  obtain ⟨f1, f2, f3⟩ := h.fresh hp
  have le : W.Le ⟨upd W.F p o, W.hs⟩ := ⟨fun b u e => by show upd W.F p o b = some u; rw [upd_ne (ne_of_none e f1)]; exact e, fun _ _ e => e⟩
  refine ⟨le, ⟨⟨fun b u e => ?_, fun n b e => ?_, h.ok.nd, h.ok.len⟩, fun b u e hb => ?_, h.pre, fun b hb => ?_, h.len, fun j d e => ?_, fun j ys e => ?_, h.dst⟩⟩
  · have e : upd W.F p o b = some u := e
    by_cases hb : b = p
    · subst hb
      rw [upd_same] at e ⊢
      exact e
    · rw [upd_ne hb] at e ⊢
      exact h.ok.sub b u e
  · have hb : b ≠ p := fun z => f2 (z ▸ List.mem_of_getElem? e)
    exact (h.ok.hnd n b e).map (by show upd W.F p o b = _; rw [upd_ne hb]) rfl fun mo g3 => (g3.other hb).mono le
  · have hb' : b ≠ p := fun z => by rw [z, f3] at e; cases e
    rw [upd_ne hb']
    exact h.keep b u e hb
  · obtain ⟨r1, r2⟩ := h.gro b hb
    exact ⟨by show upd W.F p o b = _; rw [upd_ne (fun z => hb (by rw [z]; exact f3))]; exact r1, r2⟩
  · obtain ⟨v, e1, r⟩ := h.val j d e
    exact ⟨v, e1, r.mono le⟩
  · obtain ⟨b, ws, e1, ow, e2, r⟩ := h.own j ys e
    have hb : b ≠ p := ne_of_none e2 hp
    exact ⟨b, ws, e1, ⟨by show upd W.F p o b = _; rw [upd_ne hb]; exact ow.f, ow.h, ow.g⟩, by rw [upd_ne hb]; exact e2, r.mono le⟩
/-- a list that nobody holds is frozen where it stands -/
theorem At.adopt (h : At K C W s σ H) (ow : Owns C W a) (e2 : H a = some (.lst vs)) : W.Le ⟨upd W.F a (.lst vs), W.hs⟩ ∧ At K C ⟨upd W.F a (.lst vs), W.hs⟩ { s with env := s.env.map fun x => match x with | some (.own xs) => none | x => x } σ H := by
  have le : W.Le ⟨upd W.F a (.lst vs), W.hs⟩ := ⟨fun b u e => by show upd W.F a (.lst vs) b = some u; rw [upd_ne (ne_of_none e ow.f)]; exact e, fun _ _ e => e⟩
  have noown : ∀ {j : Nat} {ys : List PV}, (s.env.map fun x => match x with | some (SV.own xs) => none | x => x)[j]? = some (some (.own ys)) → False := fun {j ys} e => by
    rw [List.getElem?_map] at e
    obtain ⟨x, hx, e⟩ := Option.map_eq_some_iff.mp e
    cases x with
    | none => cases e
    | some x => cases x <;> cases e
  refine ⟨le, ⟨⟨fun b u e => ?_, fun n b e => ?_, h.ok.nd, h.ok.len⟩, h.keep, h.pre, fun b hb => ?_, by rw [List.length_map]; exact h.len, fun j d e => ?_, fun j ys e => (noown e).elim, fun j k xs ys b e => (noown e).elim⟩⟩
  · by_cases hb : b = a
    · subst hb
      have e' : upd W.F b (.lst vs) b = some u := e
      rw [upd_same] at e'
      rw [e2]
      exact e'
    · have e' : upd W.F a (.lst vs) b = some u := e
      rw [upd_ne hb] at e'
      exact h.ok.sub b u e'
  · have hb : b ≠ a := fun z => ow.h (z ▸ List.mem_of_getElem? e)
    exact (h.ok.hnd n b e).map (by show upd W.F a (.lst vs) b = _; rw [upd_ne hb]) rfl fun mo g3 => g3.mono le
  · obtain ⟨r1, r2⟩ := h.gro b hb
    exact ⟨by show upd W.F a (.lst vs) b = _; rw [upd_ne (fun z => hb (by rw [z]; exact ow.g))]; exact r1, r2⟩
  · rw [List.getElem?_map] at e
    obtain ⟨x, hx, e⟩ := Option.map_eq_some_iff.mp e
    cases x with
    | none => cases e
    | some x =>
      cases x with
      | val d' =>
        cases e
        obtain ⟨v, e3, r3⟩ := h.val j d hx
        exact ⟨v, e3, r3.mono le⟩
      | own => cases e
theorem At.layT (h : At K C W s σ H) (hp : H p = none) (r : Reps K W vs ds) : ∃ W', W.Le W' ∧ At K C W' s σ (upd H p (.tup vs)) ∧ Rep K W' (.ref p) (.tup ds) := by
  obtain ⟨l, h'⟩ := h.lay hp (.tup vs)
  exact ⟨_, l, h', .tup (SqT.of upd_same) (r.mono l)⟩
theorem At.layL (h : At K C W s σ H) (hp : H p = none) (r : Reps K W vs ds) : ∃ W', W.Le W' ∧ At K C W' s σ (upd H p (.lst vs)) ∧ Rep K W' (.ref p) (.lst ds) := by
  obtain ⟨l, h'⟩ := h.lay hp (.lst vs)
  exact ⟨_, l, h', .lst upd_same (r.mono l)⟩
/-- a value stored in a slot -/
theorem At.set (h : At K C W s σ H) (r : Rep K W v d) (i : Nat) : At K C W { s with env := s.env.set i (some (.val d)) } (σ.set i (some v)) H := by
  refine ⟨h.ok, h.keep, h.pre, h.gro, by rw [List.length_set, List.length_set]; exact h.len, fun j e he => ?_, fun j ys he => ?_, fun j k ys zs a h1 h2 h3 h4 => ?_⟩
  · by_cases hj : i = j
    · subst hj
      have hi : i < s.env.length := by
        have := (List.getElem?_eq_some_iff.mp he).1
        rwa [List.length_set] at this
      rw [List.getElem?_set_self hi] at he
      cases he
      exact ⟨v, List.getElem?_set_self (by rw [h.len]; exact hi), r⟩
    · rw [List.getElem?_set_ne hj] at he
      rw [List.getElem?_set_ne hj]
      exact h.val j e he
  · by_cases hj : i = j
    · subst hj
      have hi : i < s.env.length := by
        have := (List.getElem?_eq_some_iff.mp he).1
        rwa [List.length_set] at this
      rw [List.getElem?_set_self hi] at he
      cases he
    · rw [List.getElem?_set_ne hj] at he
      rw [List.getElem?_set_ne hj]
      exact h.own j ys he
  · have ne : ∀ {m : Nat} {ws : List PV}, (s.env.set i (some (.val d)))[m]? = some (some (.own ws)) → i ≠ m := fun {m ws} he hm => by
      subst hm
      have hi : i < s.env.length := by
        have := (List.getElem?_eq_some_iff.mp he).1
        rwa [List.length_set] at this
      rw [List.getElem?_set_self hi] at he
      cases he
    have n1 := ne h1
    have n2 := ne h2
    rw [List.getElem?_set_ne n1] at h1 h3
    rw [List.getElem?_set_ne n2] at h2 h4
    exact h.dst j k ys zs a h1 h2 h3 h4
/-- a new list stored in a slot: the slot owns it -/
theorem At.setO (h : At K C W s σ H) (hp : H p = none) (r : Reps K W vs ds) (i : Nat) : At K C W { s with env := s.env.set i (some (.own ds)) } (σ.set i (some (.ref p))) (upd H p (.lst vs)) := by
  obtain ⟨f1, f2, f3⟩ := h.fresh hp
  have old : ∀ {j : Nat} {ys : List PV}, s.env[j]? = some (some (.own ys)) → σ[j]? = some (some (.ref p)) → False := fun {j ys} e z => by
    obtain ⟨b, ws, e1, _, e2, _⟩ := h.own j ys e
    rw [z] at e1
    cases e1
    rw [hp] at e2
    cases e2
  refine ⟨⟨fun b u e => ?_, fun n b e => ?_, h.ok.nd, h.ok.len⟩, fun b u e hb => ?_, h.pre, h.gro, by rw [List.length_set, List.length_set]; exact h.len, fun j e he => ?_, fun j ys he => ?_, fun j k ys zs a h1 h2 h3 h4 => ?_⟩
  · rw [upd_ne (ne_of_none e f1)]
    exact h.ok.sub b u e
  · exact (h.ok.hnd n b e).map rfl rfl fun mo g3 => g3.other fun z => f2 (z ▸ List.mem_of_getElem? e)
  · rw [upd_ne (fun z => by rw [z, f3] at e; cases e)]
    exact h.keep b u e hb
  · by_cases hj : i = j
    · subst hj
      have hi : i < s.env.length := by
        have := (List.getElem?_eq_some_iff.mp he).1
        rwa [List.length_set] at this
      rw [List.getElem?_set_self hi] at he
      cases he
    · rw [List.getElem?_set_ne hj] at he
      rw [List.getElem?_set_ne hj]
      exact h.val j e he
  · by_cases hj : i = j
    · subst hj
      have hi : i < s.env.length := by
        have := (List.getElem?_eq_some_iff.mp he).1
        rwa [List.length_set] at this
      rw [List.getElem?_set_self hi] at he
      cases he
      exact ⟨p, vs, List.getElem?_set_self (by rw [h.len]; exact hi), ⟨f1, f2, f3⟩, upd_same, r⟩
    · rw [List.getElem?_set_ne hj] at he
      rw [List.getElem?_set_ne hj]
      obtain ⟨b, ws, e1, ow, e2, r2⟩ := h.own j ys he
      exact ⟨b, ws, e1, ow, by rw [upd_ne (ne_of_none e2 hp)]; exact e2, r2⟩
  · have hi : i < s.env.length ∨ ¬ i < s.env.length := Nat.lt_or_ge _ _ |>.imp id (fun z => by omega)
    by_cases hj : i = j
    · by_cases hk : i = k
      · exact hj.symm.trans hk
      · subst hj
        have hil : i < s.env.length := by
          have := (List.getElem?_eq_some_iff.mp h1).1
          rwa [List.length_set] at this
        rw [List.getElem?_set_self (by rw [h.len]; exact hil)] at h3
        cases h3
        rw [List.getElem?_set_ne hk] at h2 h4
        exact (old h2 h4).elim
    · by_cases hk : i = k
      · subst hk
        have hil : i < s.env.length := by
          have := (List.getElem?_eq_some_iff.mp h2).1
          rwa [List.length_set] at this
        rw [List.getElem?_set_self (by rw [h.len]; exact hil)] at h4
        cases h4
        rw [List.getElem?_set_ne hj] at h1 h3
        exact (old h1 h3).elim
      · rw [List.getElem?_set_ne hj] at h1 h3
        rw [List.getElem?_set_ne hk] at h2 h4
        exact h.dst j k ys zs a h1 h2 h3 h4
/-- an owned list frozen where it stands -/
theorem At.freeze (h : At K C W s σ H) (he : s.env[i]? = some (some (.own xs))) : ∃ W' a, σ[i]? = some (some (.ref a)) ∧ W.Le W' ∧ At K C W' { s with env := s.env.set i (some (.val (.lst xs))) } σ H ∧ Rep K W' (.ref a) (.lst xs) := by
  obtain ⟨a, vs, e1, ow, e2, r⟩ := h.own i xs he
  have le : W.Le ⟨upd W.F a (.lst vs), W.hs⟩ := ⟨fun b u e => by show upd W.F a (.lst vs) b = some u; rw [upd_ne (ne_of_none e ow.f)]; exact e, fun _ _ e => e⟩
  have ra : Rep K ⟨upd W.F a (.lst vs), W.hs⟩ (.ref a) (.lst xs) := .lst upd_same (r.mono le)
  have hi : i < s.env.length := (List.getElem?_eq_some_iff.mp he).1
  refine ⟨⟨upd W.F a (.lst vs), W.hs⟩, a, e1, le, ⟨⟨fun b u e => ?_, fun n b e => ?_, h.ok.nd, h.ok.len⟩, h.keep, h.pre, fun b hb => ?_, by rw [List.length_set]; exact h.len, fun j e hj => ?_, fun j ys hj => ?_, fun j k ys zs b h1 h2 h3 h4 => ?_⟩, ra⟩
  · by_cases hb : b = a
    · subst hb
      have e' : upd W.F b (.lst vs) b = some u := e
      rw [upd_same] at e'
      rw [e2]
      exact e'
    · have e' : upd W.F a (.lst vs) b = some u := e
      rw [upd_ne hb] at e'
      exact h.ok.sub b u e'
  · have hb : b ≠ a := fun z => ow.h (z ▸ List.mem_of_getElem? e)
    exact (h.ok.hnd n b e).map (by show upd W.F a (.lst vs) b = _; rw [upd_ne hb]) rfl fun mo g3 => g3.mono le
  · obtain ⟨r1, r2⟩ := h.gro b hb
    exact ⟨by show upd W.F a (.lst vs) b = _; rw [upd_ne (fun z => hb (by rw [z]; exact ow.g))]; exact r1, r2⟩
  · by_cases hij : i = j
    · subst hij
      rw [List.getElem?_set_self hi] at hj
      cases hj
      exact ⟨.ref a, e1, ra⟩
    · rw [List.getElem?_set_ne hij] at hj
      obtain ⟨v, e3, r3⟩ := h.val j e hj
      exact ⟨v, e3, r3.mono le⟩
  · have hij : i ≠ j := fun z => by
      subst z
      rw [List.getElem?_set_self hi] at hj
      cases hj
    rw [List.getElem?_set_ne hij] at hj
    obtain ⟨b, ws, e3, ow3, e4, r4⟩ := h.own j ys hj
    have hb : b ≠ a := fun z => by
      subst z
      exact hij (h.dst i j xs ys b he hj e1 e3)
    exact ⟨b, ws, e3, ⟨by show upd W.F a (.lst vs) b = _; rw [upd_ne hb]; exact ow3.f, ow3.h, ow3.g⟩, e4, r4.mono le⟩
  · have ne : ∀ {m : Nat} {ws : List PV}, (s.env.set i (some (.val (.lst xs))))[m]? = some (some (.own ws)) → i ≠ m := fun {m ws} e z => by
      subst z
      rw [List.getElem?_set_self hi] at e
      cases e
    have n1 := ne h1
    have n2 := ne h2
    rw [List.getElem?_set_ne n1] at h1
    rw [List.getElem?_set_ne n2] at h2
    exact h.dst j k ys zs b h1 h2 h3 h4
/-- an owned list changed -/
theorem At.change (h : At K C W s σ H) (he : s.env[i]? = some (some (.own xs))) (hσ : σ[i]? = some (some (.ref a))) (r : Reps K W vs ds) : At K C W { s with env := s.env.set i (some (.own ds)) } σ (upd H a (.lst vs)) := by
  obtain ⟨a', vs', e1, ow, e2, _⟩ := h.own i xs he
  rw [hσ] at e1
  cases e1
  have hi : i < s.env.length := (List.getElem?_eq_some_iff.mp he).1
  refine ⟨⟨fun b u e => ?_, fun n b e => ?_, h.ok.nd, h.ok.len⟩, fun b u e hb => ?_, h.pre, h.gro, by rw [List.length_set]; exact h.len, fun j e hj => ?_, fun j ys hj => ?_, fun j k ys zs b h1 h2 h3 h4 => ?_⟩
  · rw [upd_ne (ne_of_none e ow.f)]
    exact h.ok.sub b u e
  · exact (h.ok.hnd n b e).map rfl rfl fun mo g3 => g3.other fun z => ow.h (z ▸ List.mem_of_getElem? e)
  · rw [upd_ne (fun z => by rw [z, ow.g] at e; cases e)]
    exact h.keep b u e hb
  · have hij : i ≠ j := fun z => by
      subst z
      rw [List.getElem?_set_self hi] at hj
      cases hj
    rw [List.getElem?_set_ne hij] at hj
    exact h.val j e hj
  · by_cases hij : i = j
    · subst hij
      rw [List.getElem?_set_self hi] at hj
      cases hj
      exact ⟨a, vs, hσ, ow, upd_same, r⟩
    · rw [List.getElem?_set_ne hij] at hj
      obtain ⟨b, ws, e3, ow3, e4, r4⟩ := h.own j ys hj
      have hb : b ≠ a := fun z => by
        subst z
        exact hij (h.dst i j xs ys b he hj hσ e3)
      exact ⟨b, ws, e3, ow3, by rw [upd_ne hb]; exact e4, r4⟩
  · have old : ∀ {m : Nat} {ws : List PV}, (s.env.set i (some (.own ds)))[m]? = some (some (.own ws)) → ∃ ws', s.env[m]? = some (some (.own ws')) := fun {m ws} e => by
      by_cases z : i = m
      · subst z; exact ⟨xs, he⟩
      · rw [List.getElem?_set_ne z] at e
        exact ⟨ws, e⟩
    obtain ⟨y1, g1⟩ := old h1
    obtain ⟨y2, g2⟩ := old h2
    exact h.dst j k y1 y2 b g1 g2 h3 h4
end
end Dn
/-! Den2: expressions. -/
namespace Dn
open PySem L2
/-- a value that may be read where one stands -/
inductive RdV (K : PySem.W.Frag) (W : Vw) (H : Hp) : V → PV → Prop
  | rep {v : V} {d : PV} : Rep K W v d → RdV K W H v d
  | own {a : Addr} {vs : List V} {xs : List PV} : H a = some (.lst vs) → Reps K W vs xs → RdV K W H (.ref a) (.lst xs)
section
variable {Y : WX} {K : PySem.W.Frag} {C : Ctx} {W W' : Vw} {σ : L2.St} {H : Hp} {s : S} {v w : V} {d : PV}
theorem RdV.int {i : Int} (h : RdV K W H v (.int i)) : v = .int i := by
  cases h with
  | rep h => cases h; rfl
theorem RdV.str {i : Str} (h : RdV K W H v (.str i)) : v = .str i := by
  cases h with
  | rep h => cases h; rfl
theorem RdV.bl {i : Bool} (h : RdV K W H v (.bl i)) : v = .bl i := by
  cases h with
  | rep h => cases h; rfl
theorem RdV.non (h : RdV K W H v .non) : v = .non := by
  cases h with
  | rep h => cases h; rfl
theorem RdV.tup {ds : List PV} (e : Same W.F H) (h : RdV K W H v (.tup ds)) : ∃ a vs, v = .ref a ∧ SqT K W.F a vs ∧ SqT K H a vs ∧ Reps K W vs ds := by
  cases h with
  | rep h => cases h with
    | tup h r => exact ⟨_, _, rfl, h, same_t e h, r⟩
theorem RdV.lst {ds : List PV} (e : Same W.F H) (h : RdV K W H v (.lst ds)) : ∃ a vs, v = .ref a ∧ H a = some (.lst vs) ∧ Reps K W vs ds := by
  cases h with
  | rep h => cases h with
    | lst h r => exact ⟨_, _, rfl, e _ _ h, r⟩
  | own h r => exact ⟨_, _, rfl, h, r⟩
theorem RdV.scr {ns : List Int} (e : Same W.F H) (h : RdV K W H v (.scr ns)) : ∃ a, v = .ref a ∧ SqL K H a (ns.map V.int) := by
  cases h with
  | rep h => cases h with
    | scr h => exact ⟨_, rfl, e.seq h⟩
theorem RdV.hnd {n : Nat} (h : RdV K W H v (.hnd n)) : ∃ a, v = .ref a ∧ W.hs[n]? = some a := by
  cases h with
  | rep h => cases h with
    | hnd h => exact ⟨_, rfl, h⟩
/-! ### as the library's data -/
mutual
def PV.toD : PV → Option PyData
  | .non => some .none
  | .bl b => some (.bool b)
  | .int i => some (.int i)
  | .str x => some (.str x)
  | .tup xs => (PV.toDs xs).map .tuple
  | .lst xs => (PV.toDs xs).map .list
  | .scr ns => some (.list (ns.map .int))
  | .hnd _ => none
  | .obj _ _ _ => none
  | .exn _ _ _ => none
  | .dic _ => none
  | .dct _ _ => none
  | .kt _ => none
def PV.toDs : List PV → Option (List PyData)
  | [] => some []
  | x :: xs => match PV.toD x, PV.toDs xs with
    | some d, some ds => some (d :: ds)
    | _, _ => none
end
theorem dp_ints (H : Hp) : ∀ ns : List Int, DpAll K H (ns.map V.int) (ns.map PyData.int)
  | [] => .nil
  | n :: ns => .cons (.int n) (dp_ints H ns)
mutual
theorem dp_of (e : Same W.F H) : ∀ {v : V} {d : PV} {x : PyData}, Rep K W v d → d.toD = some x → Dp K H v x
  | _, _, _, .non, h => by cases h; exact .non
  | _, _, _, .bl b, h => by cases h; exact .bl b
  | _, _, _, .int i, h => by cases h; exact .int i
  | _, _, _, .str i, h => by cases h; exact .str i
  | _, .tup ds, x, .tup hq r, h => by
    have h : (PV.toDs ds).map PyData.tuple = some x := by rw [← h, PV.toD]
    obtain ⟨ys, e1, rfl⟩ := Option.map_eq_some_iff.mp h
    exact .tup (same_t e hq) (dps_of e r e1)
  | _, .lst ds, x, .lst hq r, h => by
    have h : (PV.toDs ds).map PyData.list = some x := by rw [← h, PV.toD]
    obtain ⟨ys, e1, rfl⟩ := Option.map_eq_some_iff.mp h
    exact .lst (SqL.of (e _ _ hq)) (dps_of e r e1)
  | _, .scr ns, x, .scr hq, h => by
    have h : some (PyData.list (ns.map .int)) = some x := by rw [← h, PV.toD]
    cases h
    exact .lst (e.seq hq) (dp_ints H ns)
  | _, .hnd n, x, .hnd hq, h => by
    have h : none = some x := by rw [← h, PV.toD]
    cases h
  | _, .obj c ks us, x, .obj .., h => by
    have h : none = some x := by rw [← h, PV.toD]
    cases h
  | _, .exn c ks us, x, .exn .., h => by
    have h : none = some x := by rw [← h, PV.toD]
    cases h
  | _, .dic us, x, .dic .., h => by
    have h : none = some x := by rw [← h, PV.toD]
    cases h
  | _, .dct ks us, x, .dct .., h => by
    have h : none = some x := by rw [← h, PV.toD]
    cases h
  | _, .kt ks, x, .kt .., h => by
    have h : none = some x := by rw [← h, PV.toD]
    cases h
theorem dps_of (e : Same W.F H) : ∀ {vs : List V} {ds : List PV} {xs : List PyData}, Reps K W vs ds → PV.toDs ds = some xs → DpAll K H vs xs
  | _, _, _, .nil, h => by
    rw [PV.toDs] at h
    cases h
    exact .nil
  | _, d :: ds, xs, .cons hq r, h => by
    rw [PV.toDs] at h
    split at h
    · rename_i y ys e1 e2
      cases h
      exact .cons (dp_of e hq e1) (dps_of e r e2)
    · cases h
end
theorem RdV.dp {x : PyData} (e : Same W.F H) (h : RdV K W H v d) (hd : d.toD = some x) : Dp K H v x := by
  cases h with
  | rep h => exact dp_of e h hd
  | @own a vs xs h r =>
    have hd : (PV.toDs xs).map PyData.list = some x := by rw [← hd, PV.toD]
    obtain ⟨ys, e1, rfl⟩ := Option.map_eq_some_iff.mp hd
    exact .lst (SqL.of h) (dps_of e r e1)
theorem Pst.lft' {α : Type} {o : Option α} {Q : α → S → Vw → Hp → Prop} (h : Pst K C W σ (Dn.lft o s) Q) : ∃ a, o = some a ∧ ∀ W' H', W.Le W' → At K C W' s σ H' → Q a s W' H' := by
  unfold Dn.lft at h
  cases o with
  | none => exact h.elim
  | some a => exact ⟨a, rfl, h⟩
end
/-! ### names -/
def SV.pv : SV → PV
  | .val d => d
  | .own xs => .lst xs
/-- a name read: what it owns is frozen -/
def var (i : Nat) : M PV := fun s => match s.env[i]? with
  | some (some (.val d)) => .ok d s
  | some (some (.own xs)) => .ok (.lst xs) { s with env := s.env.set i (some (.val (.lst xs))) }
  | _ => .stk
section
variable {Y : WX} {K : PySem.W.Frag} {C : Ctx} {W W' : Vw} {σ : L2.St} {H : Hp} {s : S} {v w : V} {d : PV} {Q : VK} {i : Nat} {ca cb : M PV}
theorem den_var (h : den K Y (var i) σ H Q) : tVar i σ H Q := by
  obtain ⟨C, W, s, at', p⟩ := h
  unfold var at p
  split at p
  · rename_i d e
    obtain ⟨v, e1, r⟩ := at'.val i d e
    exact ⟨v, e1, p W H (Vw.Le.refl W) at' v r⟩
  · rename_i xs e
    obtain ⟨W', a, e1, l, at2, r⟩ := at'.freeze e
    exact ⟨.ref a, e1, p W' H l at2 _ r⟩
  · exact p.elim
theorem At.look {sv : SV} (h : At K C W s σ H) (e : s.env[i]? = some (some sv)) : ∃ v, σ[i]? = some (some v) ∧ RdV K W H v sv.pv := by
  cases sv with
  | val d =>
    obtain ⟨v, e1, r⟩ := h.val i d e
    exact ⟨v, e1, .rep r⟩
  | own xs =>
    obtain ⟨a, vs, e1, ow, e2, r⟩ := h.own i xs e
    exact ⟨_, e1, .own e2 r⟩
theorem den_ret (h : den K Y (ret d) σ H Q) (r : ∀ W, Rep K W v d) : tC v σ H Q := by
  obtain ⟨C, W, s, at', p⟩ := h
  exact p W H (Vw.Le.refl W) at' v (r W)
/-! ### operators -/
abbrev WantV (K : PySem.W.Frag) (Q : VK) : PV → S → Vw → Hp → Prop := fun d _ W' H' => ∀ v, Rep K W' v d → Q v H'
abbrev WantL (K : PySem.W.Frag) (Q : VK) : List PV → S → Vw → Hp → Prop := fun ds _ W' H' => ∀ p vs, H' p = none → Reps K W' vs ds → Q (.ref p) (upd H' p (.lst vs))
def bin (ca cb : M PV) (op : PV → PV → M PV) : M PV := bnd ca fun a => bnd cb fun b => op a b
def Bin (r : R2) (K : PySem.W.Frag) (op : PV → PV → M PV) : Prop := ∀ (C : Ctx) (W : Vw) (s : S) (σ : L2.St) (H : Hp) (v w : V) (a b : PV) (Q : VK), At K C W s σ H → RdV K W H v a → RdV K W H w b → Pst K C W σ (op a b s) (WantV K Q) → r v w H Q
theorem den_bin {r : R2} {op : PV → PV → M PV} (hb : Bin r K op) (h : den K Y (bin ca cb op) σ H Q) : tOp r (den K Y ca) (den K Y cb) σ H Q := by
  obtain ⟨C, W, s, at', p⟩ := h
  refine ⟨C, W, s, at', (Pst.bnd p).imp fun a s1 W1 H1 l1 at1 p1 v rv => ⟨C, W1, s1, at1, (Pst.bnd p1).imp fun b s2 W2 H2 l2 at2 p2 w rw' => ?_⟩⟩
  exact hb _ W2 s2 σ H2 v w a b Q at2 (.rep (rv.mono l2)) (.rep rw') p2
/-! ### arithmetic -/
instance (i j : Int) : Decidable (CDivW i j) := inferInstanceAs (Decidable (_ ∧ _))
instance (i j : Int) : Decidable (CMulW i j) := inferInstanceAs (Decidable (_ < _))
instance (i j : Int) : Decidable (CPow i j) := inferInstanceAs (Decidable (_ ∧ _ ∧ _))
def addP : PV → PV → Option PV
  | .int a, .int b => some (.int (a + b))
  | .str a, .str b => if a.length + b.length ≤ sizeLine then some (.str (a ++ b)) else none
  | .tup a, .tup b => if a.length + b.length ≤ sizeLine then some (.tup (a ++ b)) else none
  | .lst a, .lst b => if a.length + b.length ≤ sizeLine then some (.lst (a ++ b)) else none
  | _, _ => none
def subP : PV → PV → Option PV
  | .int a, .int b => some (.int (a - b))
  | _, _ => none
def mulP : PV → PV → Option PV
  | .int a, .int b => if CMulW a b then some (.int (a * b)) else none
  | .lst a, .int k => if (-(2 ^ 63) ≤ k ∧ k < 2 ^ 63) ∧ a.length * k.toNat ≤ sizeLine then some (.lst (List.replicate k.toNat a).flatten) else none
  | _, _ => none
def fdivP : PV → PV → Option PV
  | .int a, .int b => if CDivW a b then some (.int (a / b)) else none
  | _, _ => none
def modP : PV → PV → Option PV
  | .int a, .int b => if 0 < b then some (.int (a % b)) else none
  | _, _ => none
def powP : PV → PV → Option PV
  | .int a, .int b => if CPow a b then some (.int (a ^ b.toNat)) else none
  | _, _ => none
def rOr (r q : R2) : R2 := fun x y H Q => r x y H Q ∨ q x y H Q
theorem op_or2 {X : Cx} {f : Value → Value → Sem Value} {r q : R2} (h : OpR X f r) (k : OpR X f q) : OpR X f (rOr r q) := by
  intro pins s σ H x y v u Q I rx ry h'
  rcases h' with h' | h'
  · exact h pins s σ H x y v u Q I rx ry h'
  · exact k pins s σ H x y v u Q I rx ry h'
abbrev rStr2 : R2 := fun x y H Q => ∃ i j, x = .str i ∧ y = .str j ∧ i.length + j.length ≤ sizeLine ∧ Q (.str (i ++ j)) H
def rAddU (K : PySem.W.Frag) : R2 := rOr (rOr (rI0 fun i j => .int (i + j)) rStr2) (rOr (rCatA K) rCat)
theorem op_addU {X : Cx} : OpR X (binaryOp .Add) (rAddU X.K) := op_or2 (op_or2 op_add op_add_str) (op_or2 op_catA op_cat)
theorem bin_add : Bin (rAddU K) K (fun a b => lft (addP a b)) := by
  intro C W s σ H v w a b Q at' ra rb p
  obtain ⟨d, e, q⟩ := p.lft'
  have q0 := q W H (Vw.Le.refl W) at'
  unfold addP at e
  split at e
  · cases e
    cases ra.int
    cases rb.int
    exact .inl (.inl ⟨_, _, rfl, rfl, q0 _ (.int _)⟩)
  · split at e
    · cases e
      cases ra.str
      cases rb.str
      exact .inl (.inr ⟨_, _, rfl, rfl, by assumption, q0 _ (.str _)⟩)
    · cases e
  · split at e
    · rename_i hl
      cases e
      obtain ⟨x, vs, rfl, hx, hx2, rx⟩ := ra.tup at'.ok.sub
      obtain ⟨y, ws, rfl, hy, hy2, ry⟩ := rb.tup at'.ok.sub
      refine .inr (.inl ⟨x, y, vs, ws, rfl, rfl, hx2, hy2, by rw [rx.length, ry.length]; exact hl, fun e1 => ?_, fun _ e1 => ?_, fun _ _ p hp => ?_⟩)
      · subst e1
        cases rx
        exact q0 _ (.tup hy ry)
      · subst e1
        cases ry
        rw [List.append_nil] at q0
        exact q0 _ (.tup hx rx)
      · obtain ⟨W', l, at2, r2⟩ := at'.layT hp (rx.append ry)
        exact q W' _ l at2 _ r2
    · cases e
  · split at e
    · rename_i hl
      cases e
      obtain ⟨x, vs, rfl, hx, rx⟩ := ra.lst at'.ok.sub
      obtain ⟨y, ws, rfl, hy, ry⟩ := rb.lst at'.ok.sub
      refine .inr (.inr ⟨x, y, vs, ws, rfl, rfl, hx, hy, by rw [rx.length, ry.length]; exact hl, fun p hp => ?_⟩)
      obtain ⟨W', l, at2, r2⟩ := at'.layL hp (rx.append ry)
      exact q W' _ l at2 _ r2
    · cases e
  · cases e
theorem bin_sub : Bin (rI0 fun i j => .int (i - j)) K (fun a b => lft (subP a b)) := by
  intro C W s σ H v w a b Q at' ra rb p
  obtain ⟨d, e, q⟩ := p.lft'
  have q0 := q W H (Vw.Le.refl W) at'
  unfold subP at e
  split at e
  · cases e
    cases ra.int
    cases rb.int
    exact ⟨_, _, rfl, rfl, q0 _ (.int _)⟩
  · cases e
theorem bin_mul : Bin (rOr (rI CMulW fun i j => .int (i * j)) rRep) K (fun a b => lft (mulP a b)) := by
  intro C W s σ H v w a b Q at' ra rb p
  obtain ⟨d, e, q⟩ := p.lft'
  have q0 := q W H (Vw.Le.refl W) at'
  unfold mulP at e
  split at e
  · split at e
    · cases e
      cases ra.int
      cases rb.int
      exact .inl ⟨_, _, rfl, rfl, by assumption, q0 _ (.int _)⟩
    · cases e
  · split at e
    · rename_i hl
      cases e
      obtain ⟨x, vs, rfl, hx, rx⟩ := ra.lst at'.ok.sub
      cases rb.int
      refine .inr ⟨x, _, vs, rfl, rfl, hx, hl.1.1, hl.1.2, by rw [rx.length]; exact hl.2, fun p hp => ?_⟩
      obtain ⟨W', l, at2, r2⟩ := at'.layL hp (rx.rep _)
      exact q W' _ l at2 _ r2
    · cases e
  · cases e
theorem bin_fdiv : Bin (rI CDivW fun i j => .int (i / j)) K (fun a b => lft (fdivP a b)) := by
  intro C W s σ H v w a b Q at' ra rb p
  obtain ⟨d, e, q⟩ := p.lft'
  have q0 := q W H (Vw.Le.refl W) at'
  unfold fdivP at e
  split at e
  · split at e
    · cases e
      cases ra.int
      cases rb.int
      exact ⟨_, _, rfl, rfl, by assumption, q0 _ (.int _)⟩
    · cases e
  · cases e
theorem bin_mod : Bin (rI (fun _ j => 0 < j) fun i j => .int (i % j)) K (fun a b => lft (modP a b)) := by
  intro C W s σ H v w a b Q at' ra rb p
  obtain ⟨d, e, q⟩ := p.lft'
  have q0 := q W H (Vw.Le.refl W) at'
  unfold modP at e
  split at e
  · split at e
    · cases e
      cases ra.int
      cases rb.int
      exact ⟨_, _, rfl, rfl, by assumption, q0 _ (.int _)⟩
    · cases e
  · cases e
theorem bin_pow : Bin (rI CPow fun i j => .int (i ^ j.toNat)) K (fun a b => lft (powP a b)) := by
  intro C W s σ H v w a b Q at' ra rb p
  obtain ⟨d, e, q⟩ := p.lft'
  have q0 := q W H (Vw.Le.refl W) at'
  unfold powP at e
  split at e
  · split at e
    · cases e
      cases ra.int
      cases rb.int
      exact ⟨_, _, rfl, rfl, by assumption, q0 _ (.int _)⟩
    · cases e
  · cases e
/-! ### comparisons -/
def ordP (f : Int → Int → Bool) : PV → PV → Option PV
  | .int a, .int b => some (.bl (f a b))
  | _, _ => none
theorem bin_ord {f : Int → Int → Bool} : Bin (rI0 fun i j => .bl (f i j)) K (fun a b => lft (ordP f a b)) := by
  intro C W s σ H v w a b Q at' ra rb p
  obtain ⟨d, e, q⟩ := p.lft'
  have q0 := q W H (Vw.Le.refl W) at'
  unfold ordP at e
  split at e
  · cases e
    cases ra.int
    cases rb.int
    exact ⟨_, _, rfl, rfl, q0 _ (.bl _)⟩
  · cases e
def eqP (neg : Bool) (a b : PV) : Option PV := match a, b with
  | .str x, .str y => some (.bl (if neg then !(x == y) else x == y))
  | a, b => match a.toD, b.toD with
    | some x, some y => if SeqAt.shaped x = true ∧ SeqAt.shaped y = true then some (.bl (if neg then !PyData.eqv x y else PyData.eqv x y)) else none
    | _, _ => none
theorem bin_eq : Bin (rOr rEq (rEqD K)) K (fun a b => lft (eqP false a b)) := by
  intro C W s σ H v w a b Q at' ra rb p
  obtain ⟨d, e, q⟩ := p.lft'
  have q0 := q W H (Vw.Le.refl W) at'
  unfold eqP at e
  split at e
  · cases e
    cases ra.str
    cases rb.str
    exact .inl ⟨rfl, by rw [dec_str]; exact q0 _ (.bl _)⟩
  · split at e
    · rename_i x y hx hy
      split at e
      · rename_i hs
        cases e
        exact .inr ⟨x, y, ra.dp at'.ok.sub hx, rb.dp at'.ok.sub hy, hs.1, hs.2, q0 _ (.bl _)⟩
      · cases e
    · cases e
theorem bin_ne : Bin (rOr rNe (rNeD K)) K (fun a b => lft (eqP true a b)) := by
  intro C W s σ H v w a b Q at' ra rb p
  obtain ⟨d, e, q⟩ := p.lft'
  have q0 := q W H (Vw.Le.refl W) at'
  unfold eqP at e
  split at e
  · cases e
    cases ra.str
    cases rb.str
    exact .inl ⟨rfl, by rw [dec_str]; exact q0 _ (.bl _)⟩
  · split at e
    · rename_i x y hx hy
      split at e
      · rename_i hs
        cases e
        exact .inr ⟨x, y, ra.dp at'.ok.sub hx, rb.dp at'.ok.sub hy, hs.1, hs.2, q0 _ (.bl _)⟩
      · cases e
    · cases e
/-- a text among texts; data in a list of data -/
def strsOf : List PV → Option (List Str)
  | [] => some []
  | .str x :: r => (strsOf r).map (x :: ·)
  | _ :: _ => none
theorem strsOf_ok : ∀ {ds : List PV} {xs : List Str}, strsOf ds = some xs → ds = xs.map PV.str
  | [], xs, h => by cases h; rfl
  | .str x :: r, xs, h => by
    have h : (strsOf r).map (x :: ·) = some xs := h
    obtain ⟨ys, e, rfl⟩ := Option.map_eq_some_iff.mp h
    rw [strsOf_ok e]
    rfl
  | .non :: _, _, h => by cases h
  | .bl _ :: _, _, h => by cases h
  | .int _ :: _, _, h => by cases h
  | .tup _ :: _, _, h => by cases h
  | .lst _ :: _, _, h => by cases h
  | .scr _ :: _, _, h => by cases h
  | .hnd _ :: _, _, h => by cases h
  | .obj .. :: _, _, h => by cases h
  | .exn .. :: _, _, h => by cases h
  | .dic .. :: _, _, h => by cases h
  | .dct .. :: _, _, h => by cases h
  | .kt .. :: _, _, h => by cases h
theorem strsOf_map (xs : List Str) : strsOf (xs.map PV.str) = some xs := by
  induction xs with
  | nil => rfl
  | cons x r ih => show (strsOf (r.map PV.str)).map (x :: ·) = _; rw [ih]; rfl
theorem inV_strs (x : Str) (xs : List Str) : inV (.str x) (xs.map V.str) = decide (x ∈ xs) := by
  unfold inV
  rw [List.any_map]
  rw [Bool.eq_iff_iff, List.any_eq_true, decide_eq_true_eq]
  constructor
  · rintro ⟨y, hy, e⟩
    have e : (y == x) = true := e
    rw [← eq_of_beq e]
    exact hy
  · intro h
    exact ⟨x, h, by show (x == x) = true; exact beq_self_eq_true x⟩
theorem flat_strs (xs : List Str) : (xs.map V.str).all flatV = true := by
  rw [List.all_map, List.all_eq_true]
  intro x _
  rfl
def inP (neg : Bool) (a b : PV) : Option PV := match a, b with
  | .str ⟨⟨[c]⟩⟩, .str z => some (.bl (if neg then !decide (c ∈ z.cps.toList) else decide (c ∈ z.cps.toList)))
  | .str x, .tup ys => (strsOf ys).map fun xs => .bl (if neg then !decide (x ∈ xs) else decide (x ∈ xs))
  | a, .lst ys => match a.toD, PV.toDs ys with
    | some d, some ds => if SeqAt.shaped d = true ∧ SeqAt.shaped (.list ds) = true then some (.bl (if neg then !ds.any fun z => PyData.eqv z d else ds.any fun z => PyData.eqv z d)) else none
    | _, _ => none
  | _, _ => none
theorem bin_in : Bin (rOr (rOr (rIn K false) (rInD K)) (fun x y H Q => ∃ (c : Nat) (z : Str), x = .str ⟨#[c]⟩ ∧ y = .str z ∧ Q (.bl (decide (c ∈ z.cps.toList))) H)) K (fun a b => lft (inP false a b)) := by
  intro C W s σ H v w a b Q at' ra rb p
  obtain ⟨d, e, q⟩ := p.lft'
  have q0 := q W H (Vw.Le.refl W) at'
  unfold inP at e
  split at e
  · cases e
    cases ra.str
    cases rb.str
    exact .inr ⟨_, _, rfl, rfl, q0 _ (.bl _)⟩
  · rename_i x ys
    obtain ⟨xs, e1, rfl⟩ := Option.map_eq_some_iff.mp e
    cases ra.str
    obtain ⟨y, ws, rfl, hy, hy2, ry⟩ := rb.tup at'.ok.sub
    have ew := strsOf_ok e1
    subst ew
    have ew := ry.of_strs
    subst ew
    exact .inl (.inl ⟨y, _, rfl, .inr hy2, rfl, flat_strs xs, by rw [inV_strs]; exact q0 _ (.bl _)⟩)
  · rename_i ys _ _
    split at e
    · rename_i d' ds hd hds
      split at e
      · rename_i hs
        cases e
        exact .inl (.inr ⟨d', ds, ra.dp at'.ok.sub hd, rb.dp at'.ok.sub (by rw [PV.toD, hds]; rfl), hs.1, hs.2, q0 _ (.bl _)⟩)
      · cases e
    · cases e
  · cases e
/-! ### subscripts -/
def ixP : PV → PV → Option PV
  | .lst xs, .int i => atI xs i
  | .tup xs, .int i => atI xs i
  | .str x, .int i => if x.length ≤ sizeLine then (atI x.cps.toList i).map fun c => .str ⟨#[c]⟩ else none
  | _, _ => none
theorem atI_rep {vs : List V} {ds : List PV} {i : Int} {d : PV} (r : Reps K W vs ds) (h : atI ds i = some d) : ∃ v, atI vs i = some v ∧ Rep K W v d := by
  unfold atI at h ⊢
  rw [r.length]
  obtain ⟨j, e, h⟩ := Option.bind_eq_some_iff.mp h
  obtain ⟨v, e2, r2⟩ := r.get h
  exact ⟨v, by rw [e]; exact e2, r2⟩
theorem bin_ix : Bin (rIx K) K (fun a b => lft (ixP a b)) := by
  intro C W s σ H v w a b Q at' ra rb p
  obtain ⟨d, e, q⟩ := p.lft'
  have q0 := q W H (Vw.Le.refl W) at'
  unfold ixP at e
  split at e
  · cases rb.int
    obtain ⟨x, vs, rfl, hx, rx⟩ := ra.lst at'.ok.sub
    obtain ⟨v, e1, r1⟩ := atI_rep rx e
    exact .inl ⟨x, vs, _, v, rfl, rfl, SqL.of hx, e1, q0 _ r1⟩
  · cases rb.int
    obtain ⟨x, vs, rfl, hx, hx2, rx⟩ := ra.tup at'.ok.sub
    obtain ⟨v, e1, r1⟩ := atI_rep rx e
    exact .inr (.inl ⟨x, vs, _, v, rfl, rfl, hx2, e1, q0 _ r1⟩)
  · split at e
    · cases rb.int
      cases ra.str
      obtain ⟨c, e1, rfl⟩ := Option.map_eq_some_iff.mp e
      exact .inr (.inr ⟨_, _, c, rfl, rfl, by assumption, e1, q0 _ (.str _)⟩)
    · cases e
  · cases e
end
end Dn
/-! Den3: tests, arguments, displays, slices, built-ins, methods, handles. -/
namespace Dn
open PySem L2
section
variable {Y : WX} {K : PySem.W.Frag} {C : Ctx} {W W' : Vw} {σ : L2.St} {H : Hp} {s : S} {v w : V} {d : PV} {Q : VK} {i : Nat} {ca cb : M PV}
/-! ### tests -/
def asB (c : M PV) : M Bool := bnd c fun d => match d with
  | .bl b => ret b
  | _ => stuck
theorem den_asB {QB : Bool → Hp → Prop} (h : denT K Y (asB ca) σ H QB) : den K Y ca σ H (fun x H1 => ∃ c, x = .bl c ∧ QB c H1) := by
  obtain ⟨C, W, s, at', p⟩ := h
  refine ⟨C, W, s, at', (Pst.bnd p).imp fun a s1 W1 H1 l1 at1 p1 v rv => ?_⟩
  cases a <;> try exact p1.elim
  cases rv
  exact ⟨_, rfl, p1 W1 H1 (Vw.Le.refl _) at1⟩
def andT (a b : M Bool) : M Bool := bnd a fun x => if x = true then b else ret false
def orT (a b : M Bool) : M Bool := bnd a fun x => if x = true then ret true else b
def notT (a : M Bool) : M Bool := bnd a fun x => ret (!x)
def iteT (t : M Bool) (a b : M PV) : M PV := bnd t fun x => if x = true then a else b
theorem den_and {a b : M Bool} {QB : Bool → Hp → Prop} (h : denT K Y (andT a b) σ H QB) : tAnd (denT K Y a) (denT K Y b) σ H QB := by
  obtain ⟨C, W, s, at', p⟩ := h
  refine ⟨C, W, s, at', (Pst.bnd p).imp fun x s1 W1 H1 l1 at1 p1 => ?_⟩
  cases x with
  | true => exact ⟨C, W1, s1, at1, p1⟩
  | false => exact p1 W1 H1 (Vw.Le.refl _) at1
theorem den_or {a b : M Bool} {QB : Bool → Hp → Prop} (h : denT K Y (orT a b) σ H QB) : tOr (denT K Y a) (denT K Y b) σ H QB := by
  obtain ⟨C, W, s, at', p⟩ := h
  refine ⟨C, W, s, at', (Pst.bnd p).imp fun x s1 W1 H1 l1 at1 p1 => ?_⟩
  cases x with
  | false => exact ⟨C, W1, s1, at1, p1⟩
  | true => exact p1 W1 H1 (Vw.Le.refl _) at1
theorem den_not {a : M Bool} {QB : Bool → Hp → Prop} (h : denT K Y (notT a) σ H QB) : tNot (denT K Y a) σ H QB := by
  obtain ⟨C, W, s, at', p⟩ := h
  exact ⟨C, W, s, at', (Pst.bnd p).imp fun x s1 W1 H1 l1 at1 p1 => p1 W1 H1 (Vw.Le.refl _) at1⟩
theorem den_ite {t : M Bool} (h : den K Y (iteT t ca cb) σ H Q) : tIf (denT K Y t) (den K Y ca) (den K Y cb) σ H Q := by
  obtain ⟨C, W, s, at', p⟩ := h
  refine ⟨C, W, s, at', (Pst.bnd p).imp fun x s1 W1 H1 l1 at1 p1 => ?_⟩
  cases x with
  | true => exact ⟨C, W1, s1, at1, p1⟩
  | false => exact ⟨C, W1, s1, at1, p1⟩
/-! and, or of truth values, as values -/
def andV (a b : M PV) : M PV := bnd a fun x => match x with
  | .bl true => b
  | .bl false => ret (.bl false)
  | _ => stuck
def notV (a : M PV) : M PV := bnd a fun x => match x with
  | .bl b => ret (.bl (!b))
  | _ => stuck
theorem den_andV (h : den K Y (andV ca cb) σ H Q) : tAndV (den K Y ca) (den K Y cb) σ H Q := by
  obtain ⟨C, W, s, at', p⟩ := h
  refine ⟨C, W, s, at', (Pst.bnd p).imp fun x s1 W1 H1 l1 at1 p1 v rv => ?_⟩
  cases x <;> try exact p1.elim
  rename_i b
  cases rv
  refine ⟨b, rfl, ?_⟩
  cases b with
  | true => exact ⟨C, W1, s1, at1, p1⟩
  | false => exact p1 W1 H1 (Vw.Le.refl _) at1 _ (.bl _)
theorem den_notV (h : den K Y (notV ca) σ H Q) : tNotV (den K Y ca) σ H Q := by
  obtain ⟨C, W, s, at', p⟩ := h
  refine ⟨C, W, s, at', (Pst.bnd p).imp fun x s1 W1 H1 l1 at1 p1 v rv => ?_⟩
  cases x <;> try exact p1.elim
  cases rv
  exact ⟨_, rfl, p1 W1 H1 (Vw.Le.refl _) at1 _ (.bl _)⟩
/-! is None -/
def isN (neg : Bool) (a : M PV) : M PV := bnd a fun x => match x with
  | .non => ret (.bl (!neg))
  | _ => ret (.bl neg)
theorem Rep.isnon (r : Rep K W v d) : decide (v = .non) = (match d with | .non => true | _ => false) := by
  cases r <;> simp
theorem den_isN (h : den K Y (isN false ca) σ H Q) : tIsN (den K Y ca) σ H Q := by
  obtain ⟨C, W, s, at', p⟩ := h
  refine ⟨C, W, s, at', (Pst.bnd p).imp fun x s1 W1 H1 l1 at1 p1 v rv => ?_⟩
  show Q (V.bl (decide (v = V.non))) H1
  rw [rv.isnon]
  cases x <;> exact p1 W1 H1 (Vw.Le.refl _) at1 _ (.bl _)
theorem den_notN (h : den K Y (isN true ca) σ H Q) : tNotN (den K Y ca) σ H Q := by
  obtain ⟨C, W, s, at', p⟩ := h
  refine ⟨C, W, s, at', (Pst.bnd p).imp fun x s1 W1 H1 l1 at1 p1 v rv => ?_⟩
  show Q (V.bl (!decide (v = V.non))) H1
  rw [rv.isnon]
  cases x <;> exact p1 W1 H1 (Vw.Le.refl _) at1 _ (.bl _)
/-! ### arguments, displays -/
def argN : M (List PV) := ret []
def argC (a : M PV) (r : M (List PV)) : M (List PV) := bnd a fun d => bnd r fun ds => ret (d :: ds)
theorem den_argN {QA : List V → Hp → Prop} (h : denA K Y argN σ H QA) : tNil σ H QA := by
  obtain ⟨C, W, s, at', p⟩ := h
  exact p W H (Vw.Le.refl _) at' _ .nil
theorem den_argC {r : M (List PV)} {QA : List V → Hp → Prop} (h : denA K Y (argC ca r) σ H QA) : tCons (den K Y ca) (denA K Y r) σ H QA := by
  obtain ⟨C, W, s, at', p⟩ := h
  refine ⟨C, W, s, at', (Pst.bnd p).imp fun d s1 W1 H1 l1 at1 p1 v rv => ⟨C, W1, s1, at1, (Pst.bnd p1).imp fun ds s2 W2 H2 l2 at2 p2 vs rvs => ?_⟩⟩
  exact p2 W2 H2 (Vw.Le.refl _) at2 _ (.cons (rv.mono l2) rvs)
def fits (c : M (List PV)) : M (List PV) := bnd c fun ds => if ds.length ≤ sizeLine then ret ds else stuck
def tupM (c : M (List PV)) : M PV := bnd (fits c) fun ds => ret (.tup ds)
def lstM (c : M (List PV)) : M PV := bnd c fun ds => ret (.lst ds)
theorem den_tup {c : M (List PV)} (h : den K Y (tupM c) σ H Q) : tTup (denA K Y c) σ H Q := by
  obtain ⟨C, W, s, at', p⟩ := h
  refine ⟨C, W, s, at', (Pst.bnd (Pst.bnd p)).imp fun ds s1 W1 H1 l1 at1 p1 vs rvs => ?_⟩
  split at p1
  · rename_i hl
    refine ⟨by rw [rvs.length]; exact hl, fun q hq => ?_⟩
    have p2 := p1 W1 H1 (Vw.Le.refl _) at1
    obtain ⟨W2, l2, at2, r2⟩ := at1.layT hq rvs
    exact p2 W2 _ l2 at2 _ r2
  · exact p1.elim
/-- a new list, nobody's yet -/
theorem denO_lst {c : M (List PV)} (h : denO K Y (fits c) σ H Q) : tLst (denA K Y c) σ H Q := by
  obtain ⟨C, W, s, at', p⟩ := h
  refine ⟨C, W, s, at', (Pst.bnd p).imp fun ds s1 W1 H1 l1 at1 p1 vs rvs => ?_⟩
  split at p1
  · rename_i hl
    exact ⟨by rw [rvs.length]; exact hl, fun q hq => p1 W1 H1 (Vw.Le.refl _) at1 q vs hq rvs⟩
  · exact p1.elim
/-- .. frozen at once -/
theorem denO_den {c : M (List PV)} (h : den K Y (lstM c) σ H Q) : denO K Y c σ H Q := by
  obtain ⟨C, W, s, at', p⟩ := h
  refine ⟨C, W, s, at', (Pst.bnd p).imp fun ds s1 W1 H1 l1 at1 p1 q vs hq rvs => ?_⟩
  obtain ⟨W2, l2, at2, r2⟩ := at1.layL hq rvs
  exact p1 W2 _ l2 at2 _ r2
/-! ### slices -/
def cutP (xs : List PV) (lo hi : Option Int) : List PV := (xs.drop (HT.sIx xs.length 0 lo)).take (HT.sIx xs.length xs.length hi - HT.sIx xs.length 0 lo)
def cutI (xs : List Int) (lo hi : Option Int) : List Int := (xs.drop (HT.sIx xs.length 0 lo)).take (HT.sIx xs.length xs.length hi - HT.sIx xs.length 0 lo)
theorem Reps.cut {vs : List V} {ds : List PV} (r : Reps K W vs ds) (lo hi : Option Int) : Reps K W (cutV vs lo hi) (cutP ds lo hi) := by
  unfold cutV cutP
  rw [r.length]
  exact (r.drop _).take _
theorem cutV_ints (ns : List Int) (lo hi : Option Int) : cutV (ns.map V.int) lo hi = (cutI ns lo hi).map V.int := by
  unfold cutV cutI
  rw [List.length_map, ← List.map_drop, ← List.map_take]
def denP (K : PySem.W.Frag) (Y : WX) (c : M (Option Int)) : TO := fun σ H Q => ∃ (C : Ctx) (W : Vw) (s : S), At K (C.wi Y) W s σ H ∧ Pst K (C.wi Y) W σ (c s) (fun o _ _ H' => Q o H')
def parN : M (Option Int) := ret none
def parS (c : M PV) : M (Option Int) := bnd c fun d => match d with
  | .int i => ret (some i)
  | _ => stuck
theorem den_parN {QO : Option Int → Hp → Prop} (h : denP K Y parN σ H QO) : tNoPart σ H QO := by
  obtain ⟨C, W, s, at', p⟩ := h
  exact p W H (Vw.Le.refl _) at'
theorem den_parS {QO : Option Int → Hp → Prop} (h : denP K Y (parS ca) σ H QO) : tPart (den K Y ca) σ H QO := by
  obtain ⟨C, W, s, at', p⟩ := h
  refine ⟨C, W, s, at', (Pst.bnd p).imp fun d s1 W1 H1 l1 at1 p1 v rv => ?_⟩
  cases d <;> try exact p1.elim
  cases rv
  exact ⟨_, rfl, p1 W1 H1 (Vw.Le.refl _) at1⟩
def slP : PV → Option Int → Option Int → Option PV
  | .lst xs, lo, hi => some (.lst (cutP xs lo hi))
  | .tup xs, lo, hi => some (.tup (cutP xs lo hi))
  | .scr xs, lo, hi => some (.lst ((cutI xs lo hi).map .int))
  | .str x, lo, hi => if x.length ≤ sizeLine then some (.str (cutS x lo hi)) else none
  | _, _, _ => none
def slM (c : M PV) (lo hi : M (Option Int)) : M PV := bnd c fun d => bnd lo fun a => bnd hi fun b => lft (slP d a b)
def rSlU (K : PySem.W.Frag) : V → Option Int → Option Int → Hp → VK → Prop := fun x lo hi H Q => (rSlL K x lo hi H Q ∨ rSlA K x lo hi H Q) ∨ rSlS x lo hi H Q
theorem sl_u {X : Cx} : SlR X (rSlU X.K) := SlR.or (SlR.or sl_list sl_tupA) sl_str
theorem cut_all {vs : List V} {lo hi : Option Int} (h : HT.sIx vs.length 0 lo = 0 ∧ HT.sIx vs.length vs.length hi = vs.length) : cutV vs lo hi = vs := by
  unfold cutV
  rw [h.1, h.2, List.drop_zero, Nat.sub_zero, List.take_length]
theorem den_sl {lo hi : M (Option Int)} (h : den K Y (slM ca lo hi) σ H Q) : tSl (rSlU K) (den K Y ca) (denP K Y lo) (denP K Y hi) σ H Q := by
  obtain ⟨C, W, s, at', p⟩ := h
  refine ⟨C, W, s, at', (Pst.bnd p).imp fun d s1 W1 H1 l1 at1 p1 v rv => ⟨C, W1, s1, at1, (Pst.bnd p1).imp fun a s2 W2 H2 l2 at2 p2 => ⟨C, W2, s2, at2, (Pst.bnd p2).imp fun b s3 W3 H3 l3 at3 p3 => ?_⟩⟩⟩
  obtain ⟨e', he, q⟩ := p3.lft'
  have q0 := q W3 H3 (Vw.Le.refl W3) at3
  have rv := rv.mono (l2.trans l3)
  unfold slP at he
  split at he
  · cases he
    cases rv with
    | lst hx rx =>
      refine .inl (.inl ⟨_, _, rfl, SqL.of (at3.ok.sub _ _ hx), fun p hp => ?_⟩)
      obtain ⟨W4, l4, at4, r4⟩ := at3.layL hp (rx.cut a b)
      exact q W4 _ l4 at4 _ r4
  · cases he
    cases rv with
    | @tup x vs _ hx rx =>
      refine .inl (.inr ⟨_, _, rfl, same_t at3.ok.sub hx, fun e => ?_, fun _ p hp => ?_⟩)
      · refine q0 _ (.tup hx ?_)
        have := rx.cut a b
        rw [cut_all e] at this
        exact this
      · obtain ⟨W4, l4, at4, r4⟩ := at3.layT hp (rx.cut a b)
        exact q W4 _ l4 at4 _ r4
  · cases he
    cases rv with
    | scr hx =>
      refine .inl (.inl ⟨_, _, rfl, at3.ok.sub.seq hx, fun p hp => ?_⟩)
      rw [cutV_ints]
      obtain ⟨W4, l4, at4, r4⟩ := at3.layL hp (Reps.ints (K := K) (W := W3) _)
      exact q W4 _ l4 at4 _ r4
  · split at he
    · cases he
      cases rv
      exact .inr ⟨_, rfl, by assumption, q0 _ (.str _)⟩
    · cases he
  · cases he
/-! ### built-ins of one argument -/
abbrev Fn1 (r : List V → Hp → VK → Prop) (K : PySem.W.Frag) (f : PV → M PV) : Prop := ∀ (C : Ctx) (W : Vw) (s : S) (σ : L2.St) (H : Hp) (v : V) (a : PV) (Q : VK), At K C W s σ H → RdV K W H v a → Pst K C W σ (f a s) (WantV K Q) → r [v] H Q
abbrev Fn1O (r : List V → Hp → VK → Prop) (K : PySem.W.Frag) (f : PV → M (List PV)) : Prop := ∀ (C : Ctx) (W : Vw) (s : S) (σ : L2.St) (H : Hp) (v : V) (a : PV) (Q : VK), At K C W s σ H → RdV K W H v a → Pst K C W σ (f a s) (WantL K Q) → r [v] H Q
theorem den_fn1 {r : List V → Hp → VK → Prop} {f : PV → M PV} (hf : Fn1 r K f) (h : den K Y (bnd ca f) σ H Q) : tCB r (tCons (den K Y ca) tNil) σ H Q := by
  obtain ⟨C, W, s, at', p⟩ := h
  exact ⟨C, W, s, at', (Pst.bnd p).imp fun a s1 W1 H1 l1 at1 p1 v rv => hf _ W1 s1 σ H1 v a Q at1 (.rep rv) p1⟩
theorem denO_fn1 {r : List V → Hp → VK → Prop} {f : PV → M (List PV)} (hf : Fn1O r K f) (h : denO K Y (bnd ca f) σ H Q) : tCB r (tCons (den K Y ca) tNil) σ H Q := by
  obtain ⟨C, W, s, at', p⟩ := h
  exact ⟨C, W, s, at', (Pst.bnd p).imp fun a s1 W1 H1 l1 at1 p1 v rv => hf _ W1 s1 σ H1 v a Q at1 (.rep rv) p1⟩
def lenP : PV → Option PV
  | .lst xs => some (.int xs.length)
  | .tup xs => some (.int xs.length)
  | .scr xs => some (.int xs.length)
  | .str x => if x.length ≤ sizeLine then some (.int x.length) else none
  | _ => none
abbrev rLen (K : PySem.W.Frag) : List V → Hp → VK → Prop := fun xs H Q => ∃ x n, xs = [x] ∧ LenV K x H n ∧ Q (.int n) H
theorem fn_len : Fn1 (rLen K) K (fun a => lft (lenP a)) := by
  intro C W s σ H v a Q at' ra p
  obtain ⟨d, e, q⟩ := p.lft'
  have q0 := q W H (Vw.Le.refl W) at'
  unfold lenP at e
  split at e
  · cases e
    obtain ⟨x, vs, rfl, hx, rx⟩ := ra.lst at'.ok.sub
    exact ⟨_, _, rfl, .inl ⟨_, SqL.of hx, rfl⟩, q0 _ (by rw [rx.length]; exact .int _)⟩
  · cases e
    obtain ⟨x, vs, rfl, hx, hx2, rx⟩ := ra.tup at'.ok.sub
    exact ⟨_, _, rfl, .inr ⟨_, hx2, rfl⟩, q0 _ (by rw [rx.length]; exact .int _)⟩
  · cases e
    obtain ⟨x, rfl, hx⟩ := ra.scr at'.ok.sub
    exact ⟨_, _, rfl, .inl ⟨_, hx, rfl⟩, q0 _ (by rw [List.length_map]; exact .int _)⟩
  · split at e
    · cases e
      cases ra.str
      exact ⟨_, _, rfl, ⟨by assumption, rfl⟩, q0 _ (.int _)⟩
    · cases e
  · cases e
def absP : PV → Option PV
  | .int i => some (.int (if i < 0 then -i else i))
  | _ => none
theorem fn_abs : Fn1 (fun xs H Q => ∃ i, xs = [.int i] ∧ Q (.int (if i < 0 then -i else i)) H) K (fun a => lft (absP a)) := by
  intro C W s σ H v a Q at' ra p
  obtain ⟨d, e, q⟩ := p.lft'
  have q0 := q W H (Vw.Le.refl W) at'
  unfold absP at e
  split at e
  · cases e
    cases ra.int
    exact ⟨_, rfl, q0 _ (.int _)⟩
  · cases e
def intP : PV → Option PV
  | .int i => some (.int i)
  | .bl k => some (.int (if k = true then 1 else 0))
  | _ => none
theorem fn_int : Fn1 (fun xs H Q => (∃ i, xs = [.int i] ∧ Q (.int i) H) ∨ ∃ k, xs = [.bl k] ∧ Q (.int (if k then 1 else 0)) H) K (fun a => lft (intP a)) := by
  intro C W s σ H v a Q at' ra p
  obtain ⟨d, e, q⟩ := p.lft'
  have q0 := q W H (Vw.Le.refl W) at'
  unfold intP at e
  split at e
  · cases e
    cases ra.int
    exact .inl ⟨_, rfl, q0 _ (.int _)⟩
  · cases e
    cases ra.bl
    exact .inr ⟨_, rfl, q0 _ (.int _)⟩
  · cases e
def blsOf : List PV → Option (List Bool)
  | [] => some []
  | .bl x :: r => (blsOf r).map (x :: ·)
  | _ :: _ => none
theorem blsOf_ok : ∀ {ds : List PV} {xs : List Bool}, blsOf ds = some xs → ds = xs.map PV.bl
  | [], xs, h => by cases h; rfl
  | .bl x :: r, xs, h => by
    have h : (blsOf r).map (x :: ·) = some xs := h
    obtain ⟨ys, e, rfl⟩ := Option.map_eq_some_iff.mp h
    rw [blsOf_ok e]
    rfl
  | .non :: _, _, h => by cases h
  | .str _ :: _, _, h => by cases h
  | .int _ :: _, _, h => by cases h
  | .tup _ :: _, _, h => by cases h
  | .lst _ :: _, _, h => by cases h
  | .scr _ :: _, _, h => by cases h
  | .hnd _ :: _, _, h => by cases h
  | .obj .. :: _, _, h => by cases h
  | .exn .. :: _, _, h => by cases h
  | .dic .. :: _, _, h => by cases h
  | .dct .. :: _, _, h => by cases h
  | .kt .. :: _, _, h => by cases h
theorem blsOf_map (xs : List Bool) : blsOf (xs.map PV.bl) = some xs := by
  induction xs with
  | nil => rfl
  | cons x r ih => show (blsOf (r.map PV.bl)).map (x :: ·) = _; rw [ih]; rfl
def allP : PV → Option PV
  | .lst xs => (blsOf xs).map fun bs => .bl (bs.all id)
  | _ => none
theorem fn_all : Fn1 (rAll K) K (fun a => lft (allP a)) := by
  intro C W s σ H v a Q at' ra p
  obtain ⟨d, e, q⟩ := p.lft'
  have q0 := q W H (Vw.Le.refl W) at'
  unfold allP at e
  split at e
  · obtain ⟨bs, e1, rfl⟩ := Option.map_eq_some_iff.mp e
    obtain ⟨x, vs, rfl, hx, rx⟩ := ra.lst at'.ok.sub
    have ew := blsOf_ok e1
    subst ew
    have ew := rx.of_bls
    subst ew
    exact ⟨x, bs, rfl, SqL.of hx, q0 _ (.bl _)⟩
  · cases e
def listP : PV → Option (List PV)
  | .lst xs => some xs
  | .tup xs => some xs
  | .scr xs => some (xs.map .int)
  | _ => none
abbrev rListOf (K : PySem.W.Frag) : List V → Hp → VK → Prop := fun xs H Q => ∃ p ys, xs = [.ref p] ∧ (SqL K H p ys ∨ SqT K H p ys) ∧ ∀ l, H l = none → Q (.ref l) (upd H l (.lst ys))
theorem fn_list : Fn1O (rListOf K) K (fun a => lft (listP a)) := by
  intro C W s σ H v a Q at' ra p
  obtain ⟨d, e, q⟩ := p.lft'
  have q0 := q W H (Vw.Le.refl W) at'
  unfold listP at e
  split at e
  · cases e
    obtain ⟨x, vs, rfl, hx, rx⟩ := ra.lst at'.ok.sub
    exact ⟨x, vs, rfl, .inl (SqL.of hx), fun l hl => q0 l vs hl rx⟩
  · cases e
    obtain ⟨x, vs, rfl, hx, hx2, rx⟩ := ra.tup at'.ok.sub
    exact ⟨x, vs, rfl, .inr hx2, fun l hl => q0 l vs hl rx⟩
  · cases e
    obtain ⟨x, rfl, hx⟩ := ra.scr at'.ok.sub
    exact ⟨x, _, rfl, .inl hx, fun l hl => q0 l _ hl (Reps.ints _)⟩
  · cases e
def tupleP : PV → Option PV
  | .lst xs => some (.tup xs)
  | .tup xs => some (.tup xs)
  | _ => none
/-! ### methods -/
def joinP (a : Str) : PV → Option PV
  | .lst ys => match strsOf ys with
    | some zs => if (zs.map (·.length)).sum + zs.length * a.length ≤ 16777216 then some (.str (Txt.join a zs)) else none
    | none => none
  | _ => none
def joinM (ca cb : M PV) : M PV := bnd ca fun a => match a with
  | .str x => bnd cb fun b => lft (joinP x b)
  | _ => stuck
abbrev rJoin (K : PySem.W.Frag) : V → List V → Hp → VK → Prop := fun x xs H Q => ∃ a p, ∃ ys : List Str, x = .str a ∧ xs = [.ref p] ∧ (SqL K H p (ys.map V.str) ∨ SqT K H p (ys.map V.str)) ∧ (ys.map (·.length)).sum + ys.length * a.length ≤ 16777216 ∧ Q (.str (Txt.join a ys)) H
theorem den_join (h : den K Y (joinM ca cb) σ H Q) : tM1 (rJoin K) (den K Y ca) (den K Y cb) σ H Q := by
  obtain ⟨C, W, s, at', p⟩ := h
  refine ⟨C, W, s, at', (Pst.bnd p).imp fun a s1 W1 H1 l1 at1 p1 v rv => ?_⟩
  cases a <;> try exact p1.elim
  rename_i x
  cases rv
  refine ⟨⟨_, rfl⟩, C, W1, s1, at1, (Pst.bnd p1).imp fun b s2 W2 H2 l2 at2 p2 w rw' => ?_⟩
  obtain ⟨d, e, q⟩ := p2.lft'
  have q0 := q W2 H2 (Vw.Le.refl W2) at2
  unfold joinP at e
  split at e
  · split at e
    · rename_i zs e1
      split at e
      · cases e
        cases rw' with
        | lst hx rx =>
          have ew := strsOf_ok e1
          subst ew
          have ew := rx.of_strs
          subst ew
          exact ⟨_, _, zs, rfl, rfl, .inl (SqL.of (at2.ok.sub _ _ hx)), by assumption, q0 _ (.str _)⟩
      · cases e
    · cases e
  · cases e
/-- x.append(e), x a name that owns its list -/
def chkO (i : Nat) : M Unit := fun s => match s.env[i]? with
  | some (some (.own _)) => .ok () s
  | _ => .stk
theorem chkO_ok {α : Type} {f : Unit → M α} {Q : α → S → Vw → Hp → Prop} (h : At K C W s σ H) (p : Pst K C W σ (bnd (chkO i) f s) Q) : (∃ xs, s.env[i]? = some (some (.own xs))) ∧ Pst K C W σ (f () s) Q := by
  unfold bnd chkO at p
  split at p
  · rename_i a s' e
    split at e
    · rename_i xs he
      cases e
      exact ⟨⟨_, he⟩, p⟩
    · cases e
  · rename_i e
    split at e <;> cases e
  · exact p.elim
def pushM (i : Nat) (d : PV) : M PV := fun s => match s.env[i]? with
  | some (some (.own xs)) => if xs.length < sizeLine then .ok .non { s with env := s.env.set i (some (.own (xs ++ [d]))) } else .stk
  | _ => .stk
def appM (i : Nat) (ca : M PV) : M PV := bnd (chkO i) fun _ => bnd ca fun d => pushM i d
theorem den_app (h : den K Y (appM i ca) σ H Q) : tBM K "list" rAppend (tVar i) (tCons (den K Y ca) tNil) σ H Q := by
  obtain ⟨C, W, s, at', p⟩ := h
  obtain ⟨⟨xs, e⟩, p⟩ := chkO_ok at' p
  obtain ⟨a, vs, e1, ow, e2, r⟩ := at'.own i xs e
  refine ⟨.ref a, e1, .inl ⟨rfl, vs, SqL.of e2⟩, C, W, s, at', (Pst.bnd p).imp fun d s1 W1 H1 l1 at1 p1 v rv => ?_⟩
  unfold pushM at p1
  split at p1
  · rename_i ys he
    split at p1
    · rename_i hl
      obtain ⟨a', vs', f1, ow', f2, r'⟩ := at1.own i ys he
      rw [e1] at f1
      cases f1
      refine ⟨a, vs', v, rfl, rfl, f2, by rw [r'.length]; exact hl, ?_⟩
      exact p1 W1 _ (Vw.Le.refl _) (at1.change he e1 (r'.append (.cons rv .nil))) _ .non
    · exact p1.elim
  · exact p1.elim
end
/-! ### handles -/
def valP {κ : Type} [DecidableEq κ] (kvs : List (κ × PV)) (k : κ) : Option PV := (kvs.find? fun kv => decide (kv.1 = k)).map (·.2)
def putP {κ : Type} [DecidableEq κ] (kvs : List (κ × PV)) (k : κ) (v : PV) : List (κ × PV) :=
  if (kvs.any fun kv => decide (kv.1 = k)) = true then kvs.map (fun kv => if kv.1 = k then (kv.1, v) else kv) else kvs ++ [(k, v)]
def mergeP (kvs more : List (Key × PV)) : List (Key × PV) := more.foldl (fun acc kv => putP acc kv.1 kv.2) kvs
section
variable {Y : WX} {K : PySem.W.Frag} {C : Ctx} {W W' : Vw} {σ : L2.St} {H : Hp} {s : S} {v w : V} {d : PV} {Q : VK} {i : Nat} {ca cb cd : M PV} {κ : Type} [DecidableEq κ]
theorem KVs.get : ∀ {r : List (κ × V)} {q : List (κ × PV)} {k : κ} {d : PV}, KVs K W r q → valP q k = some d → ∃ v, valV r k = some v ∧ Rep K W v d
  | _, _, k, d, .nil, h => by cases h
  | _, _, k, d, .cons (k := k') (v := v) (d := d') (r := r) (s := q) h t, e => by
    unfold valP at e
    unfold valV
    rw [List.find?_cons] at e ⊢
    by_cases hk : k' = k
    · rw [decide_eq_true (show ((k', d') : κ × PV).1 = k from hk)] at e
      rw [decide_eq_true (show ((k', v) : κ × V).1 = k from hk)]
      cases e
      exact ⟨v, rfl, h⟩
    · rw [decide_eq_false (show ¬ ((k', d') : κ × PV).1 = k from hk)] at e
      rw [decide_eq_false (show ¬ ((k', v) : κ × V).1 = k from hk)]
      exact KVs.get t e
theorem KVs.length : ∀ {r : List (κ × V)} {q : List (κ × PV)}, KVs K W r q → r.length = q.length
  | _, _, .nil => rfl
  | _, _, .cons _ t => congrArg Nat.succ (KVs.length t)
theorem KVs.any : ∀ {r : List (κ × V)} {q : List (κ × PV)} {k : κ}, KVs K W r q → (r.any fun kv => decide (kv.1 = k)) = (q.any fun kv => decide (kv.1 = k))
  | _, _, _, .nil => rfl
  | _, _, k, .cons _ t => by
    rw [List.any_cons, List.any_cons, KVs.any t]
theorem KVs.append : ∀ {r r' : List (κ × V)} {q q' : List (κ × PV)}, KVs K W r q → KVs K W r' q' → KVs K W (r ++ r') (q ++ q')
  | _, _, _, _, .nil, t => t
  | _, _, _, _, .cons h t, u => .cons h (KVs.append t u)
theorem KVs.over {k : κ} (h : Rep K W v d) : ∀ {r : List (κ × V)} {q : List (κ × PV)}, KVs K W r q → KVs K W (r.map (fun kv => if kv.1 = k then (kv.1, v) else kv)) (q.map (fun kv => if kv.1 = k then (kv.1, d) else kv))
  | _, _, .nil => .nil
  | _, _, .cons (k := k') (v := v') (d := d') g t => by
    rw [List.map_cons, List.map_cons]
    by_cases hk : k' = k
    · rw [if_pos (show ((k', v') : κ × V).1 = k from hk), if_pos (show ((k', d') : κ × PV).1 = k from hk)]
      exact .cons h (KVs.over h t)
    · rw [if_neg (show ¬ ((k', v') : κ × V).1 = k from hk), if_neg (show ¬ ((k', d') : κ × PV).1 = k from hk)]
      exact .cons g (KVs.over h t)
theorem KVs.put {k : κ} {r : List (κ × V)} {q : List (κ × PV)} (t : KVs K W r q) (h : Rep K W v d) : KVs K W (putK r k v) (putP q k d) := by
  unfold putK putP
  rw [t.any]
  split
  · exact t.over h
  · exact t.append (.cons h .nil)
theorem KVs.merge : ∀ {m r : List (Key × V)} {n q : List (Key × PV)}, KVs K W m n → KVs K W r q → KVs K W (mergeK r m) (mergeP q n)
  | _, _, _, _, .nil, t => t
  | _, _, _, _, .cons (k := k) (v := v) (d := d) (r := m) (s := n) h u, t => by
    show KVs K W (mergeK (putK _ k v) m) (mergeP (putP _ k d) n)
    exact KVs.merge u (t.put h)
/-- d['k'] of a handle -/
def hgetP : PV → PV → M PV := fun a b s => match a, b with
  | .hnd n, .str k => match s.sto[n]? with
    | some (.dic kvs) => match valP kvs (.inr k) with
      | some d => .ok d s
      | none => .stk
    | _ => .stk
  | _, _ => .stk
theorem bin_hget : Bin (fun x y H Q => ∃ a v, x = .ref a ∧ DGet H a y (some v) ∧ Q v H) K hgetP := by
  intro C W s σ H v w a b Q at' ra rb p
  unfold hgetP at p
  split at p
  · rename_i n k
    split at p
    · rename_i kvs hs
      split at p
      · rename_i d hd
        obtain ⟨x, rfl, hx⟩ := ra.hnd
        cases rb.str
        cases (at'.ok.live hx hs (fun z => nomatch z)).2 with
        | dic hH kv =>
          obtain ⟨y, hy, ry⟩ := kv.get hd
          refine ⟨x, y, rfl, ?_, p W H (Vw.Le.refl _) at' _ ry⟩
          rw [← hy]
          exact DGet.k (k := Sum.inr k) hH
      · exact p.elim
    · exact p.elim
  · exact p.elim
theorem den_hget (h : den K Y (bin ca cb hgetP) σ H Q) : tDGet (den K Y ca) (den K Y cb) σ H Q := den_bin bin_hget h
/-- a handle's object changed -/
theorem At.putG {n : Nat} {a : Addr} {o : HO} {mo mo' : MO} (h : At K C W s σ H) (hn : W.hs[n]? = some a) (hm : s.sto[n]? = some mo) (hg : mo ≠ .gone) (r : MRep K W (upd H a o) a mo') : At K C W { s with sto := s.sto.set n mo' } σ (upd H a o) := by
  obtain ⟨fa, _⟩ := h.ok.live hn hm hg
  have hnl : n < s.sto.length := (List.getElem?_eq_some_iff.mp hm).1
  refine ⟨⟨fun b u e => ?_, fun m b e => ?_, h.ok.nd, by rw [List.length_set]; exact h.ok.len⟩, fun b u e hb => ?_, h.pre, h.gro, h.len, h.val, fun j ys e => ?_, h.dst⟩
  · rw [upd_ne (ne_of_none e fa)]
    exact h.ok.sub b u e
  · by_cases hb : b = a
    · subst hb
      have hmn : m = n := by
        obtain ⟨x1, y1⟩ := List.getElem?_eq_some_iff.mp e
        obtain ⟨x2, y2⟩ := List.getElem?_eq_some_iff.mp hn
        exact (List.getElem_inj h.ok.nd).mp (y1.trans y2.symm)
      subst hmn
      exact .inl ⟨fa, _, List.getElem?_set_self hnl, r⟩
    · have hmn : n ≠ m := fun z => by
        subst z
        rw [hn] at e
        cases e
        exact hb rfl
      exact (h.ok.hnd m b e).map rfl (List.getElem?_set_ne hmn) fun mo g3 => g3.other hb
  · have hba : b ≠ a := fun z => by
      subst z
      have hg : C.G b ≠ none := by rw [e]; exact fun q => nomatch q
      exact hb ((h.gro b hg).2 (List.mem_of_getElem? hn))
    rw [upd_ne hba]
    exact h.keep b u e hb
  · obtain ⟨b, ws, e1, ow, e2, r2⟩ := h.own j ys e
    have hba : b ≠ a := fun z => ow.h (by rw [z]; exact List.mem_of_getElem? hn)
    exact ⟨b, ws, e1, ow, by rw [upd_ne hba]; exact e2, r2⟩
theorem At.put {n : Nat} {a : Addr} {kvs : List (Key × V)} {q : List (Key × PV)} {mo : MO} (h : At K C W s σ H) (hn : W.hs[n]? = some a) (hm : s.sto[n]? = some mo) (hg : mo ≠ .gone) (r : KVs K W kvs q) : At K C W { s with sto := s.sto.set n (.dic q) } σ (upd H a (.dK kvs)) := h.putG hn hm hg (.dic upd_same r)
/-- d['k'] = v -/
def hputM (cd ck cv : M PV) : M Fl := bnd cv fun v => bnd cd fun a => bnd ck fun b => fun s => match a, b with
  | .hnd n, .str k => match s.sto[n]? with
    | some (.dic kvs) => if kvs.length < sizeLine then .ok .nx { s with sto := s.sto.set n (.dic (putP kvs (.inr k) v)) } else .stk
    | _ => .stk
  | _, _ => .stk
end
/-! ### statements: what is wanted of an expression within -/
section
variable {Y : WX} {K : PySem.W.Frag} {C : Ctx} {W W' : Vw} {σ : L2.St} {H : Hp} {s : S} {α : Type} {D : Ends}
theorem PstS.up {r : Res S Fl} (l : W.Le W') (h : PstS K C W D r) : PstS K C W' D r := by
  cases r with
  | ok a s' => exact fun W2 σ2 H2 l2 at2 => h W2 σ2 H2 (l.trans l2) at2
  | exc e s' => exact fun W2 σ2 H2 cls d l2 at2 r => h W2 σ2 H2 cls d (l.trans l2) at2 r
  | stk => exact h
theorem PstS.bnd {c : M α} {f : α → M Fl} (h : PstS K C W D (Dn.bnd c f s)) : Pst K C W σ (c s) (fun a s1 W1 _ => PstS K C W1 D (f a s1)) := by
  unfold Dn.bnd at h
  cases e : c s with
  | ok a s1 =>
    rw [e] at h
    exact fun W1 H1 l _ => h.up l
  | exc => rw [e] at h; exact h
  | stk => rw [e] at h; exact h
theorem den_hput {cd ck cv : M PV} (h : denS K Y (hputM cd ck cv) D σ H) : sDPut (den K Y cd) (den K Y ck) (den K Y cv) D σ H := by
  obtain ⟨C, W, s, at', p⟩ := h
  refine ⟨C, W, s, at', (PstS.bnd p).imp fun v s1 W1 H1 l1 at1 p1 x rx => ⟨C, W1, s1, at1, (PstS.bnd p1).imp fun a s2 W2 H2 l2 at2 p2 y ry => ⟨C, W2, s2, at2, (PstS.bnd p2).imp fun b s3 W3 H3 l3 at3 p3 z rz => ?_⟩⟩⟩
  split at p3
  · rename_i n k
    split at p3
    · rename_i kvs hs
      split at p3
      · rename_i hl
        cases rz
        have ry := ry.mono l3
        cases ry with
        | hnd hx =>
          rename_i a
          cases (at3.ok.live hx hs (fun z => nomatch z)).2 with
          | dic hH kv =>
            refine ⟨a, _, rfl, DPut.k (k := Sum.inr k) hH (by rw [kv.length]; exact hl), ?_⟩
            exact p3 W3 _ _ (Vw.Le.refl _) (at3.put hx hs (fun z => nomatch z) (kv.put (rx.mono (l2.trans l3))))
      · exact p3.elim
    · exact p3.elim
  · exact p3.elim
end
end Dn
/-! Den4: dict displays, comprehensions, statements. -/
namespace Dn
open PySem L2
/-! ### an address held apart while something is made -/
def Ctx.res (C : Ctx) (D : Addr) (o : HO) : Ctx := { G := upd C.G D o, F0 := fun b => if b = D then none else C.F0 b, hs0 := C.hs0, X := C.X }
def del (H : Hp) (D : Addr) : Hp := fun b => if b = D then none else H b
theorem del_same {H : Hp} {D : Addr} : del H D D = none := if_pos rfl
theorem del_ne {H : Hp} {D b : Addr} (h : b ≠ D) : del H D b = H b := if_neg h
theorem upd_del {H : Hp} {D : Addr} {o : HO} (h : H D = some o) : upd (del H D) D o = H := by
  funext b
  by_cases hb : b = D
  · subst hb; rw [upd_same, h]
  · rw [upd_ne hb, del_ne hb]
section
variable {Y : WX} {K : PySem.W.Frag} {C : Ctx} {W W' : Vw} {σ : L2.St} {H : Hp} {s : S} {v w : V} {d : PV} {Q : VK} {i : Nat} {ca cb cd : M PV} {D : Addr} {o : HO}
theorem At.resIn (h : At K C W s σ H) (hD : H D = none) (o : HO) : At K (C.res D o) W s σ (upd H D o) := by
  obtain ⟨f1, f2, f3⟩ := h.fresh hD
  refine ⟨⟨fun b u e => ?_, fun n b e => ?_, h.ok.nd, h.ok.len⟩, fun b u e hb => ?_, h.pre, fun b hb => ?_, h.len, h.val, fun j ys e => ?_, h.dst⟩
  · rw [upd_ne (ne_of_none e f1)]
    exact h.ok.sub b u e
  · exact (h.ok.hnd n b e).map rfl rfl fun mo g3 => g3.other fun z => f2 (by rw [← z]; exact List.mem_of_getElem? e)
  · by_cases hbD : b = D
    · subst hbD
      have e : upd C.G b o b = some u := e
      rw [upd_same] at e ⊢
      exact e
    · have e : upd C.G D o b = some u := e
      rw [upd_ne hbD] at e ⊢
      exact h.keep b u e hb
  · by_cases hbD : b = D
    · subst hbD
      exact ⟨by show _ = (if b = b then none else C.F0 b); rw [if_pos rfl]; exact f1, fun z => absurd z f2⟩
    · have hb : upd C.G D o b ≠ none := hb
      rw [upd_ne hbD] at hb
      obtain ⟨g1, g2⟩ := h.gro b hb
      exact ⟨by show _ = (if b = D then none else C.F0 b); rw [if_neg hbD]; exact g1, g2⟩
  · obtain ⟨b, ws, e1, ow, e2, r2⟩ := h.own j ys e
    have hb : b ≠ D := ne_of_none e2 hD
    exact ⟨b, ws, e1, ⟨ow.f, ow.h, by show upd C.G D o b = none; rw [upd_ne hb]; exact ow.g⟩, by rw [upd_ne hb]; exact e2, r2⟩
theorem At.resOut (h : At K (C.res D o) W s σ H) (hG : C.G D = none) (hh : D ∉ C.hs0) : del H D D = none ∧ upd (del H D) D o = H ∧ At K C W s σ (del H D) := by
  have eD : (C.res D o).G D = some o := upd_same
  have hHD : H D = some o := h.keep D o eD hh
  have gD : (C.res D o).G D ≠ none := by rw [eD]; exact fun z => nomatch z
  obtain ⟨g1, g2⟩ := h.gro D gD
  have g1 : W.F D = none := by rw [g1]; show (if D = D then none else C.F0 D) = none; rw [if_pos rfl]
  have g2 : D ∉ W.hs := fun z => hh (g2 z)
  refine ⟨del_same, upd_del hHD, ⟨⟨fun b u e => ?_, fun n b e => ?_, h.ok.nd, h.ok.len⟩, fun b u e hb => ?_, h.pre, fun b hb => ?_, h.len, h.val, fun j ys e => ?_, h.dst⟩⟩
  · rw [del_ne (ne_of_none e g1)]
    exact h.ok.sub b u e
  · have hb : b ≠ D := fun z => g2 (by rw [← z]; exact List.mem_of_getElem? e)
    exact (h.ok.hnd n b e).map rfl rfl fun mo k3 => k3.at (del_ne hb)
  · have hbD : b ≠ D := fun z => by rw [z, hG] at e; cases e
    rw [del_ne hbD]
    refine h.keep b u ?_ hb
    show upd C.G D o b = _
    rw [upd_ne hbD]
    exact e
  · have hbD : b ≠ D := fun z => by rw [z] at hb; exact hb hG
    obtain ⟨k1, k2⟩ := h.gro b (by show upd C.G D o b ≠ none; rw [upd_ne hbD]; exact hb)
    have k1 : W.F b = (if b = D then none else C.F0 b) := k1
    rw [if_neg hbD] at k1
    exact ⟨k1, k2⟩
  · obtain ⟨b, ws, e1, ow, e2, r2⟩ := h.own j ys e
    have og : upd C.G D o b = none := ow.g
    have hb : b ≠ D := fun z => by rw [z, upd_same] at og; cases og
    rw [upd_ne hb] at og
    exact ⟨b, ws, e1, ⟨ow.f, ow.h, og⟩, by rw [del_ne hb]; exact e2, r2⟩
theorem At.nohs (h : At K C W s σ H) (hD : H D = none) : C.G D = none ∧ D ∉ C.hs0 := by
  obtain ⟨_, f2, f3⟩ := h.fresh hD
  refine ⟨f3, fun hm => f2 ?_⟩
  obtain ⟨n, hn⟩ := List.getElem?_of_mem hm
  exact List.mem_of_getElem? (h.pre n D hn)
/-- something new that nobody knows of -/
theorem At.extra {p : Addr} (h : At K C W s σ H) (hp : H p = none) (o : HO) : At K C W s σ (upd H p o) := by
  obtain ⟨f1, f2, f3⟩ := h.fresh hp
  refine ⟨⟨fun b u e => ?_, fun n b e => ?_, h.ok.nd, h.ok.len⟩, fun b u e hb => ?_, h.pre, h.gro, h.len, h.val, fun j ys e => ?_, h.dst⟩
  · rw [upd_ne (ne_of_none e f1)]
    exact h.ok.sub b u e
  · exact (h.ok.hnd n b e).map rfl rfl fun mo g3 => g3.other fun z => f2 (by rw [← z]; exact List.mem_of_getElem? e)
  · rw [upd_ne (fun z => by rw [z, f3] at e; cases e)]
    exact h.keep b u e hb
  · obtain ⟨b, ws, e1, ow, e2, r2⟩ := h.own j ys e
    exact ⟨b, ws, e1, ow, by rw [upd_ne (ne_of_none e2 hp)]; exact e2, r2⟩
theorem At.resExt (h : At K (C.res D o) W s σ H) (hG : C.G D = none) (hh : D ∉ C.hs0) : At K C W s σ H := by
  obtain ⟨e1, e2, a⟩ := h.resOut hG hh
  have a2 := a.extra e1 o
  rw [e2] at a2
  exact a2
/-- what is wanted, while D is held apart -/
theorem Pst.res {α : Type} {r : Res S α} {Q : α → S → Vw → Hp → Prop} (hG : C.G D = none) (hh : D ∉ C.hs0) (h : Pst K C W σ r Q) : Pst K (C.res D o) W σ r (fun a s' W' H' => Q a s' W' (del H' D)) := by
  cases r with
  | ok a s' => exact fun W' H' l at' => h W' _ l (at'.resOut hG hh).2.2
  | exc e s' => exact fun W' σ' H' cls d l at' r => h W' σ' H' cls d l (at'.resExt hG hh) r
  | stk => exact h
/-- a new handle -/
theorem At.newH {p : Addr} {r : List (Key × V)} {q : List (Key × PV)} (h : At K C W s σ H) (hp : H p = none) (k : KVs K W r q) :
    W.Le ⟨W.F, W.hs ++ [p]⟩ ∧ At K C ⟨W.F, W.hs ++ [p]⟩ { s with sto := s.sto ++ [.dic q] } σ (upd H p (.dK r)) ∧ Rep K ⟨W.F, W.hs ++ [p]⟩ (.ref p) (.hnd s.sto.length) := by
  obtain ⟨f1, f2, f3⟩ := h.fresh hp
  have le : W.Le ⟨W.F, W.hs ++ [p]⟩ := ⟨Same.refl _, fun n a e => by
    have := (List.getElem?_eq_some_iff.mp e).1
    show (W.hs ++ [p])[n]? = _
    rw [List.getElem?_append_left this]
    exact e⟩
  refine ⟨le, ⟨⟨fun b u e => ?_, fun n b e => ?_, ?_, ?_⟩, fun b u e hb => ?_, fun n b e => le.pre n b (h.pre n b e), fun b hb => ?_, h.len, fun j e he => ?_, fun j ys e => ?_, h.dst⟩, .hnd ?_⟩
  · rw [upd_ne (ne_of_none e f1)]
    exact h.ok.sub b u e
  · have e : (W.hs ++ [p])[n]? = some b := e
    by_cases hn : n < W.hs.length
    · rw [List.getElem?_append_left hn] at e
      refine (h.ok.hnd n b e).map rfl ?_ fun mo g3 => (g3.other fun z => f2 (by rw [← z]; exact List.mem_of_getElem? e)).mono le
      show (s.sto ++ _)[n]? = _
      rw [List.getElem?_append_left (by rw [h.ok.len]; exact hn)]
    · rw [List.getElem?_append_right (by omega)] at e
      have hz : n - W.hs.length = 0 := by
        have := (List.getElem?_eq_some_iff.mp e).1
        simp at this
        omega
      rw [hz] at e
      cases e
      refine .inl ⟨f1, .dic q, ?_, .dic upd_same (k.mono le)⟩
      show (s.sto ++ [MO.dic q])[n]? = _
      rw [List.getElem?_append_right (by rw [h.ok.len]; omega), h.ok.len, hz]
      rfl
  · show (W.hs ++ [p]).Nodup
    rw [List.nodup_append]
    exact ⟨h.ok.nd, by simp, fun a ha b hb => by
      rw [List.mem_singleton] at hb
      subst hb
      exact fun z => f2 (by rw [← z]; exact ha)⟩
  · show (s.sto ++ _).length = (W.hs ++ _).length
    rw [List.length_append, List.length_append, h.ok.len]
    rfl
  · rw [upd_ne (fun z => by rw [z, f3] at e; cases e)]
    exact h.keep b u e hb
  · obtain ⟨g1, g2⟩ := h.gro b hb
    refine ⟨g1, fun hm => ?_⟩
    rcases List.mem_append.mp hm with hm | hm
    · exact g2 hm
    · rw [List.mem_singleton] at hm
      rw [hm] at hb
      exact absurd f3 hb
  · obtain ⟨v, e1, r⟩ := h.val j e he
    exact ⟨v, e1, r.mono le⟩
  · obtain ⟨b, ws, e1, ow, e2, r2⟩ := h.own j ys e
    have hb : b ≠ p := ne_of_none e2 hp
    refine ⟨b, ws, e1, ⟨ow.f, fun hm => ?_, ow.g⟩, by rw [upd_ne hb]; exact e2, r2.mono le⟩
    rcases List.mem_append.mp hm with hm | hm
    · exact ow.h hm
    · exact hb (List.mem_singleton.mp hm)
  · show (W.hs ++ [p])[s.sto.length]? = _
    rw [h.ok.len, List.getElem?_append_right (Nat.le_refl _), Nat.sub_self]
    rfl
/-! ### {'k': e, ..}: a new handle -/
def prsM : List (Str × M PV) → M (List (Key × PV))
  | [] => ret []
  | (k, c) :: r => bnd c fun d => bnd (prsM r) fun ds => ret ((.inr k, d) :: ds)
def trsOf (K : PySem.W.Frag) (Y : WX) (kcs : List (Str × M PV)) : List (TE × TE) := kcs.map fun p => (tC (.str p.1), den K Y p.2)
def dispM (kcs : List (Str × M PV)) : M PV := bnd (prsM kcs) fun kvs s => if kvs.length ≤ 15 then .ok (.hnd s.sto.length) { s with sto := s.sto ++ [.dic (mergeP [] kvs)] } else .stk
theorem den_prs : ∀ (kcs : List (Str × M PV)) {C : Ctx} {W : Vw} {s : S} {H : Hp} {QP : List (V × V) → Hp → Prop}, At K (C.wi Y) W s σ H →
    Pst K (C.wi Y) W σ (prsM kcs s) (fun kvs _ W' H' => ∀ r : List (Key × V), KVs K W' r kvs → QP (r.map fun kv => (kV kv.1, kv.2)) H') → tPairs (trsOf K Y kcs) σ H QP
  | [], C, W, s, H, QP, at', p => p W H (Vw.Le.refl _) at' [] .nil
  | (k, c) :: r, C, W, s, H, QP, at', p => by
    refine ⟨C, W, s, at', (Pst.bnd p).imp fun d s1 W1 H1 l1 at1 p1 v rv => ?_⟩
    refine den_prs r at1 ((Pst.bnd p1).imp fun kvs s2 W2 H2 l2 at2 p2 q hq => ?_)
    exact p2 W2 H2 (Vw.Le.refl _) at2 ((.inr k, v) :: q) (.cons (rv.mono l2) hq)
theorem den_disp {kcs : List (Str × M PV)} (h : den K Y (dispM kcs) σ H Q) : tDisp (trsOf K Y kcs) σ H Q := by
  obtain ⟨C, W, s, at', p⟩ := h
  intro q hq
  obtain ⟨hG, hh⟩ := at'.nohs hq
  have p1 := (Pst.bnd p).res (o := .dK []) hG hh
  refine den_prs (C := C.res q (.dK [])) kcs (at'.resIn hq (.dK [])) (p1.imp fun kvs s1 W1 H1 l1 at1 p2 r hr => ?_)
  obtain ⟨e1, e2, at2⟩ := at1.resOut hG hh
  have hp : H1 q = some (.dK []) := at1.keep q _ upd_same hh
  refine ⟨hp, r, rfl, ?_⟩
  split at p2
  · rename_i hl
    refine ⟨by rw [hr.length]; exact hl, ?_⟩
    obtain ⟨l3, at3, r3⟩ := at2.newH e1 (KVs.merge hr .nil)
    have p3 := p2 _ _ l3 at3 _ r3
    have e3 : upd (del H1 q) q (.dK (mergeK [] r)) = upd H1 q (.dK (mergeK [] r)) := by
      rw [← e2, upd_upd, e2]
    rw [e3] at p3
    exact p3
  · exact p2.elim
/-! ### the slots of a block forgotten -/
def wip (e : Env) : List Nat → Env
  | [] => e
  | v :: vs => (wip e vs).set v none
theorem wip_length (e : Env) : ∀ vs : List Nat, (wip e vs).length = e.length
  | [] => rfl
  | v :: vs => by unfold wip; rw [List.length_set, wip_length e vs]
theorem wip_some {e : Env} {j : Nat} {x : SV} : ∀ {vs : List Nat}, (wip e vs)[j]? = some (some x) → e[j]? = some (some x) ∧ j ∉ vs
  | [], h => ⟨h, by simp⟩
  | v :: vs, h => by
    unfold wip at h
    by_cases hi : v = j
    · subst hi
      by_cases hv : v < (wip e vs).length
      · rw [List.getElem?_set_self hv] at h; cases h
      · rw [List.getElem?_eq_none (by simpa using hv)] at h; cases h
    · rw [List.getElem?_set_ne hi] at h
      obtain ⟨h1, h2⟩ := wip_some h
      exact ⟨h1, by simp only [List.mem_cons, not_or]; exact ⟨fun e => hi e.symm, h2⟩⟩
theorem wipe_in {σ : L2.St} {j : Nat} : ∀ {vs : List Nat}, j ∈ vs → j < σ.length → (wipe σ vs)[j]? = some none
  | v :: vs, h, hl => by
    unfold wipe
    by_cases hi : v = j
    · subst hi
      exact List.getElem?_set_self (by rw [wipe_length]; exact hl)
    · rw [List.getElem?_set_ne hi]
      exact wipe_in ((List.mem_cons.mp h).resolve_left fun e => hi e.symm) hl
theorem wipe_ext {σ τ : L2.St} {vs : List Nat} (hl : σ.length = τ.length) (h : ∀ j, j ∉ vs → σ[j]? = τ[j]?) : wipe σ vs = wipe τ vs := by
  apply List.ext_getElem?
  intro j
  by_cases hj : j ∈ vs
  · by_cases hlt : j < σ.length
    · rw [wipe_in hj hlt, wipe_in hj (by omega)]
    · rw [List.getElem?_eq_none (by rw [wipe_length]; omega), List.getElem?_eq_none (by rw [wipe_length]; omega)]
  · rw [wipe_out hj, wipe_out hj]
    exact h j hj
theorem At.weak {e' : Env} {σ' : L2.St} (h : At K C W s σ H) (hl : e'.length = s.env.length) (hl2 : σ'.length = σ.length) (hs : ∀ (j : Nat) (sv : SV), e'[j]? = some (some sv) → s.env[j]? = some (some sv) ∧ σ'[j]? = σ[j]?) : At K C W { s with env := e' } σ' H := by
  refine ⟨h.ok, h.keep, h.pre, h.gro, by rw [hl2, h.len]; exact hl.symm, fun j d e => ?_, fun j xs e => ?_, fun j k xs ys a h1 h2 h3 h4 => ?_⟩
  · obtain ⟨e1, e2⟩ := hs j _ e
    rw [e2]
    exact h.val j d e1
  · obtain ⟨e1, e2⟩ := hs j _ e
    rw [e2]
    exact h.own j xs e1
  · obtain ⟨e1, e2⟩ := hs j _ h1
    obtain ⟨e3, e4⟩ := hs k _ h2
    rw [e2] at h3
    rw [e4] at h4
    exact h.dst j k xs ys a e1 e3 h3 h4
theorem At.wipeS (h : At K C W s σ H) (vs : List Nat) : At K C W { s with env := wip s.env vs } (L2.wipe σ vs) H :=
  h.weak (wip_length _ _) (wipe_length _ _) fun j sv e => ⟨(wip_some e).1, wipe_out (wip_some e).2⟩
theorem At.unwipe {vs : List Nat} (h : At K C W s (wipe σ vs) H) : At K C W { s with env := wip s.env vs } σ H :=
  h.weak (wip_length _ _) (wipe_length _ _).symm fun j sv e => ⟨(wip_some e).1, (wipe_out (wip_some e).2).symm⟩
theorem wip_wip (e : Env) (vs : List Nat) : wip (wip e vs) vs = wip e vs := by
  have hin : ∀ {e : Env} {j : Nat} {vs : List Nat}, j ∈ vs → j < e.length → (wip e vs)[j]? = some none := by
    intro e j vs
    induction vs with
    | nil => intro h; cases h
    | cons v vs ih =>
      intro h hl
      unfold wip
      by_cases hi : v = j
      · subst hi
        exact List.getElem?_set_self (by rw [wip_length]; exact hl)
      · rw [List.getElem?_set_ne hi]
        exact ih ((List.mem_cons.mp h).resolve_left fun e => hi e.symm) hl
  have hout : ∀ {e : Env} {j : Nat} {vs : List Nat}, j ∉ vs → (wip e vs)[j]? = e[j]? := by
    intro e j vs
    induction vs with
    | nil => intro _; rfl
    | cons v vs ih =>
      intro h
      unfold wip
      rw [List.getElem?_set_ne (fun z => h (by rw [z]; exact List.mem_cons_self))]
      exact ih fun m => h (List.mem_cons_of_mem _ m)
  apply List.ext_getElem?
  intro j
  by_cases hj : j ∈ vs
  · by_cases hlt : j < e.length
    · rw [hin hj (by rw [wip_length]; exact hlt), hin hj hlt]
    · rw [List.getElem?_eq_none (by rw [wip_length, wip_length]; omega), List.getElem?_eq_none (by rw [wip_length]; omega)]
  · rw [hout hj]
/-! ### what is walked -/
structure Walks (K : PySem.W.Frag) (J : It) (W : Vw) (xs : List PV) : Prop where
  go : ∀ {C : Ctx} {W' : Vw} {s : S} {σ : L2.St} {H : Hp} {i : Nat}, W.Le W' → At K C W' s σ H → i < xs.length → J.go i H
  yld : ∀ {C : Ctx} {W' : Vw} {s : S} {σ : L2.St} {H H' : Hp} {i : Nat} {x : V}, W.Le W' → At K C W' s σ H → i < xs.length → J.yld i H x H' → ∃ d W'', xs[i]? = some d ∧ W'.Le W'' ∧ At K C W'' s σ H' ∧ Rep K W'' x d
  stop : ∀ {C : Ctx} {W' : Vw} {s : S} {σ : L2.St} {H : Hp} {i : Nat}, W.Le W' → At K C W' s σ H → xs.length ≤ i → J.stop i H
def SrcOk (Y : WX) (wi : TI) (K : PySem.W.Frag) (c : M (List PV)) : Prop := ∀ (σ : L2.St) (H : Hp) (R : It → Hp → Prop), (∃ (C : Ctx) (W : Vw) (s : S), At K (C.wi Y) W s σ H ∧ Pst K (C.wi Y) W σ (c s) (fun xs _ W' H' => ∀ J, Walks K J W' xs → R J H')) → wi σ H R
theorem walks_lst {a : Addr} {vs : List V} {ds : List PV} (h : W.F a = some (.lst vs)) (r : Reps K W vs ds) : Walks K (Itl K a) W ds where
  go := fun {C W' s σ H i} l at' hi => by
    have e := at'.ok.sub _ _ (l.ex _ _ h)
    have hi' : i < vs.length := by rw [r.length]; exact hi
    exact ⟨vs, vs[i], SqL.of e, List.getElem?_eq_getElem hi'⟩
  yld := fun {C W' s σ H H' i x} l at' hi y => by
    obtain ⟨e, y⟩ := y
    subst e
    have e := at'.ok.sub _ _ (l.ex _ _ h)
    have hx := y vs (SqL.of e)
    obtain ⟨d, h1, h2⟩ := r.getV hx
    exact ⟨d, W', h1, Vw.Le.refl _, at', h2.mono l⟩
  stop := fun {C W' s σ H i} l at' hi => ⟨vs, SqL.of (at'.ok.sub _ _ (l.ex _ _ h)), by rw [r.length]; exact hi⟩
theorem walks_tup {a : Addr} {vs : List V} {ds : List PV} (h : SqT K W.F a vs) (r : Reps K W vs ds) : Walks K (Itt K a) W ds where
  go := fun {C W' s σ H i} l at' hi => by
    have e := same_t at'.ok.sub (same_t l.ex h)
    have hi' : i < vs.length := by rw [r.length]; exact hi
    exact ⟨vs, vs[i], e, List.getElem?_eq_getElem hi'⟩
  yld := fun {C W' s σ H H' i x} l at' hi y => by
    obtain ⟨e, y⟩ := y
    subst e
    have e := same_t at'.ok.sub (same_t l.ex h)
    have hx := y vs e
    obtain ⟨d, h1, h2⟩ := r.getV hx
    exact ⟨d, W', h1, Vw.Le.refl _, at', h2.mono l⟩
  stop := fun {C W' s σ H i} l at' hi => ⟨vs, same_t at'.ok.sub (same_t l.ex h), by rw [r.length]; exact hi⟩
theorem walks_rng {lo : Int} {n : Nat} : Walks K (Itr lo n) W ((List.range n).map fun (k : Nat) => PV.int (lo + (k : Int))) where
  go := fun {C W' s σ H i} l at' hi => by show i < n; simpa using hi
  yld := fun {C W' s σ H H' i x} l at' hi y => by
    obtain ⟨e, y⟩ := y
    subst e y
    have hi : i < n := by simpa using hi
    exact ⟨.int (lo + i), W', by simp [hi], Vw.Le.refl _, at', .int _⟩
  stop := fun {C W' s σ H i} l at' hi => by show n ≤ i; simpa using hi
def signsP (x : Str) : List PV := x.cps.toList.map fun c => .str ⟨#[c]⟩
theorem walks_str {x : Str} : Walks K (Its x) W (signsP x) where
  go := fun {C W' s σ H i} l at' hi => by
    show i < x.cps.size
    simpa [signsP] using hi
  yld := fun {C W' s σ H H' i v} l at' hi y => by
    obtain ⟨e, c, hc, ev⟩ := y
    subst e ev
    refine ⟨.str ⟨#[c]⟩, W', ?_, Vw.Le.refl _, at', .str _⟩
    unfold signsP
    rw [List.getElem?_map, Array.getElem?_toList, hc]
    rfl
  stop := fun {C W' s σ H i} l at' hi => by
    show x.cps.size ≤ i
    simpa [signsP] using hi
def itemsP : PV → Option (List PV)
  | .lst xs => some xs
  | .tup xs => some xs
  | .str x => some (signsP x)
  | _ => none
def itemsM (c : M PV) : M (List PV) := bnd c fun d => lft (itemsP d)
def iU (K : PySem.W.Frag) (te : TE) : TI := fun σ H R => (iList K te σ H R ∨ iTup K te σ H R) ∨ iStr te σ H R
theorem pi_u {X : Cx} {tg e : Expr} {te : TE} (h : PE X e te) : PI X tg e (iU X.K te) := ⟨fun pins s σ H R I q => by
  rcases q with (q | q) | q
  · exact (pi_list h).run pins s σ H R I q
  · exact (pi_tup h).run pins s σ H R I q
  · exact (pi_str h).run pins s σ H R I q⟩
theorem src_u : SrcOk Y (iU K (den K Y ca)) K (itemsM ca) := by
  intro σ H R ⟨C, W, s, at', p⟩
  have p := Pst.bnd p
  cases e : ca s with
  | exc _ _ => exact .inl (.inl ⟨C, W, s, at', by rw [e] at p ⊢; exact p⟩)
  | stk => rw [e] at p; exact p.elim
  | ok d s1 =>
    cases d with
    | lst xs =>
      refine .inl (.inl ⟨C, W, s, at', ?_⟩)
      rw [e] at p ⊢
      intro W1 H1 l1 at1 v rv
      have p1 := p W1 H1 l1 at1 W1 H1 (Vw.Le.refl _) at1
      cases rv with
      | lst hx rx => exact ⟨_, rfl, ⟨_, SqL.of (at1.ok.sub _ _ hx)⟩, p1 _ (walks_lst hx rx)⟩
    | tup xs =>
      refine .inl (.inr ⟨C, W, s, at', ?_⟩)
      rw [e] at p ⊢
      intro W1 H1 l1 at1 v rv
      have p1 := p W1 H1 l1 at1 W1 H1 (Vw.Le.refl _) at1
      cases rv with
      | tup hx rx => exact ⟨_, rfl, ⟨_, same_t at1.ok.sub hx⟩, p1 _ (walks_tup hx rx)⟩
    | str x =>
      refine .inr ⟨C, W, s, at', ?_⟩
      rw [e] at p ⊢
      intro W1 H1 l1 at1 v rv
      have p1 := p W1 H1 l1 at1 W1 H1 (Vw.Le.refl _) at1
      cases rv
      exact ⟨_, rfl, p1 _ walks_str⟩
    | _ =>
      refine .inl (.inl ⟨C, W, s, at', ?_⟩)
      rw [e] at p ⊢
      intro W1 H1 l1 at1
      exact (p W1 H1 l1 at1).elim
def rngP : PV → Option (List PV)
  | .int j => if -(2 ^ 62) ≤ j ∧ j < 2 ^ 62 then some ((List.range j.toNat).map fun (k : Nat) => PV.int (0 + (k : Int))) else none
  | _ => none
def rngM (c : M PV) : M (List PV) := bnd c fun d => lft (rngP d)
theorem src_rng : SrcOk Y (iRng1 (tCons (den K Y ca) tNil)) K (rngM ca) := by
  intro σ H R ⟨C, W, s, at', p⟩
  refine ⟨C, W, s, at', (Pst.bnd p).imp fun d s1 W1 H1 l1 at1 p1 v rv => ?_⟩
  obtain ⟨e', he, q⟩ := p1.lft'
  unfold rngP at he
  split at he
  · split at he
    · rename_i hj
      cases he
      cases rv
      exact ⟨_, rfl, hj.1, hj.2, q W1 H1 (Vw.Le.refl _) at1 _ walks_rng⟩
    · cases he
  · cases he
/-! ### [e for x in xs if t] -/
def lcGo (i : Nat) (vs : List Nat) (cond : M Bool) (elt : M PV) : List PV → List PV → M (List PV)
  | [], acc => ret acc
  | x :: r, acc => fun s => match cond { s with env := s.env.set i (some (.val x)) } with
    | .ok true s1 => match elt s1 with
      | .ok y s2 => if acc.length < sizeLine then lcGo i vs cond elt r (acc ++ [y]) { s2 with env := wip s2.env vs } else .stk
      | .exc _ _ => .stk
      | .stk => .stk
    | .ok false s1 => lcGo i vs cond elt r acc { s1 with env := wip s1.env vs }
    | .exc _ _ => .stk
    | .stk => .stk
def lcM (cs : M (List PV)) (i : Nat) (vs : List Nat) (cond : M Bool) (elt : M PV) : M (List PV) := bnd cs fun xs s => lcGo i vs cond elt xs [] { s with env := wip s.env vs }
theorem den_lc {Y' : WX} {wi : TI} {cs : M (List PV)} {vs : List Nat} {cond : M Bool} {elt : M PV} (hw : SrcOk Y wi K cs) (hi : i ∈ vs) (h : denO K Y (lcM cs i vs cond elt) σ H Q) : tLc wi (gName i) (denT K Y' cond) (den K Y' elt) vs σ H Q := by
  obtain ⟨C, W, s, at', p⟩ := h
  refine hw σ H _ ⟨C, W, s, at', (Pst.bnd p).imp fun xs s1 W1 H1 l1 at1 p1 J wk => ?_⟩
  intro D hD
  obtain ⟨hG, hh⟩ := at1.nohs hD
  refine ⟨fun k m H => k ≤ xs.length ∧ m = xs.length - k ∧ ∃ acc accV s2 W2, W1.Le W2 ∧ At K ((C.wi Y).res D (.lst accV)) W2 s2 (wipe σ vs) H ∧ wip s2.env vs = s2.env ∧ Reps K W2 accV acc ∧ Pst K (C.wi Y) W2 σ (lcGo i vs cond elt (xs.drop k) acc s2) (WantL K Q),
    ⟨xs.length, Nat.zero_le _, by simp, [], [], _, W1, Vw.Le.refl _, (at1.resIn hD (.lst [])).wipeS vs, wip_wip _ _, .nil, p1⟩, ?_⟩
  rintro k m H2 ⟨hk, rfl, acc, accV, s2, W2, l2, at2, hw2, ra, p2⟩
  by_cases hlt : k < xs.length
  · refine .inr ⟨wk.go l2 at2 hlt, fun H' => ∃ acc accV s2 W2, W1.Le W2 ∧ At K ((C.wi Y).res D (.lst accV)) W2 s2 (wipe σ vs) H' ∧ wip s2.env vs = s2.env ∧ Reps K W2 accV acc ∧ Pst K (C.wi Y) W2 σ (lcGo i vs cond elt (xs.drop (k + 1)) acc s2) (WantL K Q),
      fun H' q => ⟨xs.length - (k + 1), by omega, hlt, rfl, q⟩, fun x H' y => ?_⟩
    obtain ⟨d, W3, hd, l3, at3, rd⟩ := wk.yld l2 at2 hlt y
    have hdrop : xs.drop k = d :: xs.drop (k + 1) := by
      obtain ⟨h1, h2⟩ := List.getElem?_eq_some_iff.mp hd
      rw [List.drop_eq_getElem_cons h1, h2]
    rw [hdrop] at p2
    have at4 : At K ((C.wi Y).res D (.lst accV)) W3 { s2 with env := s2.env.set i (some (.val d)) } ((wipe σ vs).set i (some x)) H' := at3.set rd i
    have hw' : ∀ {τ : L2.St}, τ = (wipe σ vs).set i (some x) → wipe τ vs = wipe σ vs := by
      intro τ e
      subst e
      apply wipe_ext
      · rw [List.length_set, wipe_length]
      · intro j hj
        rw [List.getElem?_set_ne (fun z => hj (by rw [← z]; exact hi)), wipe_out hj]
    have toWipe : ∀ {C' : Ctx} {W' : Vw} {s' : S} {H' : Hp}, At K C' W' s' ((wipe σ vs).set i (some x)) H' → At K C' W' { s' with env := wip s'.env vs } (wipe σ vs) H' := fun {C' W' s' H'} a =>
      a.weak (wip_length _ _) (by rw [List.length_set]) fun j sv e => ⟨(wip_some e).1, by rw [List.getElem?_set_ne (fun z => (wip_some e).2 (by rw [← z]; exact hi))]⟩
    refine ⟨hw' rfl, C.res D (.lst accV), W3, _, at4.wi Y', ?_⟩
    have p3 : Pst K (C.wi Y) W3 σ (lcGo i vs cond elt (d :: xs.drop (k + 1)) acc s2) (WantL K Q) := p2.up l3
    cases ec : cond { s2 with env := s2.env.set i (some (.val d)) } with
    | exc e s3 =>
      unfold lcGo at p3
      simp only [ec] at p3
      exact p3.elim
    | stk =>
      unfold lcGo at p3
      simp only [ec] at p3
      exact p3.elim
    | ok b s3 =>
      intro W4 H4 l4 at5'
      have at5 : At K ((C.wi Y).res D (.lst accV)) W4 s3 _ H4 := at5'.wi Y
      cases b with
      | false =>
        unfold lcGo at p3
        simp only [ec] at p3
        show ∃ acc accV s2 W2, _
        exact ⟨acc, accV, _, W4, (l2.trans l3).trans l4, toWipe at5, wip_wip _ _, ra.mono (l3.trans l4), p3.up l4⟩
      | true =>
        unfold lcGo at p3
        simp only [ec] at p3
        show den K Y' elt _ H4 _
        refine ⟨C.res D (.lst accV), W4, s3, at5', ?_⟩
        cases ee : elt s3 with
        | exc e s4 => simp only [ee] at p3; exact p3.elim
        | stk => simp only [ee] at p3; exact p3.elim
        | ok y4 s4 =>
          simp only [ee] at p3
          split at p3
          · rename_i hsz
            intro W5 H5 l5 at6' v rv
            have at6 : At K ((C.wi Y).res D (.lst accV)) W5 s4 _ H5 := at6'.wi Y
            have hHD : H5 D = some (.lst accV) := at6.keep D _ upd_same hh
            refine ⟨accV, hHD, by rw [ra.length]; exact hsz, acc ++ [y4], accV ++ [v], _, W5, ((l2.trans l3).trans l4).trans l5, ?_, wip_wip _ _, (ra.mono ((l3.trans l4).trans l5)).append (.cons rv .nil), p3.up (l4.trans l5)⟩
            have at7 := toWipe at6
            obtain ⟨e1, e2, at8⟩ := at7.resOut hG hh
            have at9 := at8.resIn e1 (.lst (accV ++ [v]))
            have e3 : upd (del H5 D) D (.lst (accV ++ [v])) = upd H5 D (.lst (accV ++ [v])) := by
              rw [← e2, upd_upd, e2]
            rw [e3] at at9
            exact at9
          · exact p3.elim
  · have e : k = xs.length := by omega
    subst e
    refine .inl ⟨wk.stop l2 at2 (Nat.le_refl _), ?_⟩
    rw [List.drop_length] at p2
    obtain ⟨e1, e2, at3⟩ := at2.resOut hG hh
    have at4 := at3.unwipe
    rw [hw2] at at4
    have q := p2 W2 _ (Vw.Le.refl _) at4 D accV e1 ra
    rw [e2] at q
    exact q
end
/-! ### statements -/
section
variable {Y : WX} {K : PySem.W.Frag} {C : Ctx} {W W' : Vw} {σ : L2.St} {H : Hp} {s : S} {D : Ends} {i j k : Nat} {ca cb cd : M PV} {ta tb : TS} {fa fb : M Fl}
def skipM : M Fl := ret .nx
theorem den_skip (h : denS K Y skipM D σ H) : tNext D σ H := by
  obtain ⟨C, W, s, at', p⟩ := h
  exact p W σ H (Vw.Le.refl _) at'
def seqM (a b : M Fl) : M Fl := fun s => match a s with
  | .ok .nx s' => b s'
  | .ok fl s' => .ok fl s'
  | .exc e s' => .exc e s'
  | .stk => .stk
theorem den_seq (h : denS K Y (seqM fa fb) D σ H) : tSeq (denS K Y fa) (denS K Y fb) D σ H := by
  obtain ⟨C, W, s, at', p⟩ := h
  refine ⟨C, W, s, at', ?_⟩
  unfold seqM at p
  cases e : fa s with
  | exc _ _ => rw [e] at p; exact p
  | stk => rw [e] at p; exact p.elim
  | ok fl s1 =>
    rw [e] at p
    cases fl with
    | nx => exact fun W1 σ1 H1 l1 at1 => ⟨C, W1, s1, at1, p.up l1⟩
    | rt d => exact fun W1 σ1 H1 l1 at1 => p W1 σ1 H1 l1 at1
    | bk => exact fun W1 σ1 H1 l1 at1 => p W1 σ1 H1 l1 at1
    | ct => exact fun W1 σ1 H1 l1 at1 => p W1 σ1 H1 l1 at1
    | ro d => exact fun W1 σ1 H1 l1 at1 => p W1 σ1 H1 l1 at1
def ifM (t : M Bool) (a b : M Fl) : M Fl := bnd t fun x => if x = true then a else b
theorem den_if {t : M Bool} (h : denS K Y (ifM t fa fb) D σ H) : tIfS (denT K Y t) (denS K Y fa) (denS K Y fb) D σ H := by
  obtain ⟨C, W, s, at', p⟩ := h
  refine ⟨C, W, s, at', (PstS.bnd p).imp fun x s1 W1 H1 l1 at1 p1 => ?_⟩
  cases x with
  | true => exact ⟨C, W1, s1, at1, p1⟩
  | false => exact ⟨C, W1, s1, at1, p1⟩
def retM (c : M PV) : M Fl := bnd c fun d => ret (.rt d)
theorem den_return (h : denS K Y (retM ca) D σ H) : tRet (den K Y ca) D σ H := by
  obtain ⟨C, W, s, at', p⟩ := h
  exact ⟨C, W, s, at', (PstS.bnd p).imp fun x s1 W1 H1 l1 at1 p1 => p1 W1 σ H1 (Vw.Le.refl _) at1⟩
def dropM (c : M PV) : M Fl := bnd c fun _ => ret .nx
theorem den_drop (h : denS K Y (dropM ca) D σ H) : tDrop (den K Y ca) D σ H := by
  obtain ⟨C, W, s, at', p⟩ := h
  exact ⟨C, W, s, at', (PstS.bnd p).imp fun x s1 W1 H1 l1 at1 p1 v _ => p1 W1 σ H1 (Vw.Le.refl _) at1⟩
def setV (i : Nat) (d : PV) : M Unit := fun s => .ok () { s with env := s.env.set i (some (.val d)) }
def setO (i : Nat) (xs : List PV) : M Unit := fun s => .ok () { s with env := s.env.set i (some (.own xs)) }
def asgM (i : Nat) (c : M PV) : M Fl := bnd c fun d => bnd (setV i d) fun _ => ret .nx
theorem den_asg (h : denS K Y (asgM i ca) D σ H) : tAsg (den K Y ca) (gName i) D σ H := by
  obtain ⟨C, W, s, at', p⟩ := h
  exact ⟨C, W, s, at', (PstS.bnd p).imp fun x s1 W1 H1 l1 at1 p1 v rv => p1 W1 _ H1 (Vw.Le.refl _) (at1.set rv i)⟩
/-! two, three names at once -/
def par2 (i j : Nat) (ca cb : M PV) : M Fl := bnd ca fun a => bnd cb fun b => bnd (setV i a) fun _ => bnd (setV j b) fun _ => ret .nx
theorem den_par2 (h : denS K Y (par2 i j ca cb) D σ H) : tPar i j (tCons (den K Y ca) (tCons (den K Y cb) tNil)) D σ H := by
  obtain ⟨C, W, s, at', p⟩ := h
  refine ⟨C, W, s, at', (PstS.bnd p).imp fun x s1 W1 H1 l1 at1 p1 v rv => ⟨C, W1, s1, at1, (PstS.bnd p1).imp fun y s2 W2 H2 l2 at2 p2 w rw' => ?_⟩⟩
  exact ⟨v, w, rfl, p2 W2 _ H2 (Vw.Le.refl _) ((at2.set (rv.mono l2) i).set rw' j)⟩
def par2VO (i j : Nat) (ca : M PV) (cb : M (List PV)) : M Fl := bnd ca fun a => bnd cb fun b => bnd (setV i a) fun _ => bnd (setO j b) fun _ => ret .nx
theorem den_par2VO {cb : M (List PV)} (h : denS K Y (par2VO i j ca cb) D σ H) : tPar i j (tCons (den K Y ca) (tCons (denO K Y cb) tNil)) D σ H := by
  obtain ⟨C, W, s, at', p⟩ := h
  refine ⟨C, W, s, at', (PstS.bnd p).imp fun x s1 W1 H1 l1 at1 p1 v rv => ⟨C, W1, s1, at1, (PstS.bnd p1).imp fun y s2 W2 H2 l2 at2 p2 q vs hq rvs => ?_⟩⟩
  exact ⟨v, _, rfl, p2 W2 _ _ (Vw.Le.refl _) ((at2.set (rv.mono l2) i).setO hq rvs j)⟩
def par3 (i j k : Nat) (ca cb cd : M PV) : M Fl := bnd ca fun a => bnd cb fun b => bnd cd fun d => bnd (setV i a) fun _ => bnd (setV j b) fun _ => bnd (setV k d) fun _ => ret .nx
theorem den_par3 (h : denS K Y (par3 i j k ca cb cd) D σ H) : tPar3 i j k (tCons (den K Y ca) (tCons (den K Y cb) (tCons (den K Y cd) tNil))) D σ H := by
  obtain ⟨C, W, s, at', p⟩ := h
  refine ⟨C, W, s, at', (PstS.bnd p).imp fun x s1 W1 H1 l1 at1 p1 v rv => ⟨C, W1, s1, at1, (PstS.bnd p1).imp fun y s2 W2 H2 l2 at2 p2 w rw' => ⟨C, W2, s2, at2, (PstS.bnd p2).imp fun z s3 W3 H3 l3 at3 p3 u ru => ?_⟩⟩⟩
  exact ⟨v, w, u, rfl, p3 W3 _ H3 (Vw.Le.refl _) (((at3.set (rv.mono (l2.trans l3)) i).set (rw'.mono l3) j).set ru k)⟩
/-! ### for, while -/
def forM (i : Nat) (body : M Fl) : List PV → M Fl
  | [] => ret .nx
  | x :: r => fun s => match body { s with env := s.env.set i (some (.val x)) } with
    | .ok .nx s' => forM i body r s'
    | .ok .ct s' => forM i body r s'
    | .ok .bk s' => .ok .nx s'
    | .ok (.rt d) s' => .ok (.rt d) s'
    | .ok (.ro d) s' => .ok (.ro d) s'
    | .exc e s' => .exc e s'
    | .stk => .stk
def loopM (cs : M (List PV)) (i : Nat) (body : M Fl) : M Fl := bnd cs fun xs => forM i body xs
theorem den_for {wi : TI} {cs : M (List PV)} (hw : SrcOk Y wi K cs) (h : denS K Y (loopM cs i fa) D σ H) : tFor wi (gName i) (denS K Y fa) D σ H := by
  obtain ⟨C, W, s, at', p⟩ := h
  refine hw σ H _ ⟨C, W, s, at', (PstS.bnd p).imp fun xs s1 W1 H1 l1 at1 p1 J wk => ?_⟩
  refine ⟨fun k m σ H => k ≤ xs.length ∧ m = xs.length - k ∧ ∃ s2 W2, W1.Le W2 ∧ At K (C.wi Y) W2 s2 σ H ∧ PstS K (C.wi Y) W2 D (forM i fa (xs.drop k) s2), ⟨xs.length, Nat.zero_le _, by simp, s1, W1, Vw.Le.refl _, at1, p1⟩, ?_⟩
  rintro k m σ2 H2 ⟨hk, rfl, s2, W2, l2, at2, p2⟩
  by_cases hlt : k < xs.length
  · refine .inr ⟨wk.go l2 at2 hlt, fun σ' H' => ∃ s2 W2, W1.Le W2 ∧ At K (C.wi Y) W2 s2 σ' H' ∧ PstS K (C.wi Y) W2 D (forM i fa (xs.drop (k + 1)) s2), fun σ' H' q => ⟨xs.length - (k + 1), by omega, hlt, rfl, q⟩, fun x H' y => ?_⟩
    obtain ⟨d, W3, hd, l3, at3, rd⟩ := wk.yld l2 at2 hlt y
    have hdrop : xs.drop k = d :: xs.drop (k + 1) := by
      obtain ⟨h1, h2⟩ := List.getElem?_eq_some_iff.mp hd
      rw [List.drop_eq_getElem_cons h1, h2]
    rw [hdrop] at p2
    refine ⟨C, W3, _, at3.set rd i, ?_⟩
    have p3 := p2.up l3
    unfold forM at p3
    cases e : fa { s2 with env := s2.env.set i (some (.val d)) } with
    | exc _ _ => simp only [e] at p3; exact p3
    | stk => simp only [e] at p3; exact p3.elim
    | ok fl s4 =>
      simp only [e] at p3
      cases fl with
      | nx => exact fun W4 σ4 H4 l4 at4 => ⟨s4, W4, (l2.trans l3).trans l4, at4, p3.up l4⟩
      | ct => exact fun W4 σ4 H4 l4 at4 => ⟨s4, W4, (l2.trans l3).trans l4, at4, p3.up l4⟩
      | bk => exact fun W4 σ4 H4 l4 at4 => p3 W4 σ4 H4 l4 at4
      | rt r => exact fun W4 σ4 H4 l4 at4 => p3 W4 σ4 H4 l4 at4
      | ro r => exact fun W4 σ4 H4 l4 at4 => p3 W4 σ4 H4 l4 at4
  · have e : k = xs.length := by omega
    subst e
    rw [List.drop_length] at p2
    exact .inl ⟨wk.stop l2 at2 (Nat.le_refl _), p2 W2 σ2 H2 (Vw.Le.refl _) at2⟩
end
end Dn
/-! Den5: defs and their calls (with the guards known: repr), the law's end. -/
namespace Dn
open PySem L2 PySem.Spec PyProof.Rows
/-! ### a def's promise, where no list is being shown -/
structure FnG (P : Program) (w : World) (K : PySem.W.Frag) (mg : Str → Option Value) (base : Heap) (CX : CXT) (k : Nat) (f : Addr) (fd : FuncData) (ps : List Str) (sp : Sp) : Prop where
  len : ∀ vs H Q E, sp vs H Q E → vs.length = ps.length
  run : ∀ (A : Around) (outer : List PySem.Env) (s : Shared) (H : Hp) (args : Args) (us : List Value) (vs : List V) (Q : VK) (E : XK), A.guards = some [] → Room k A → Env0 P w K mg base A outer s H → BindsTo s fd args (ps.zip us) → Vals vs us → sp vs H Q E →
    codeAny (model P w) A (.call (.ref f) args) (CR CX outer P w H s Q E) s
theorem FnG.mono {P : Program} {w : World} {K : PySem.W.Frag} {mg : Str → Option Value} {base : Heap} {CX : CXT} {j k : Nat} {f : Addr} {fd : FuncData} {ps : List Str} {sp : Sp} (F : FnG P w K mg base CX j f fd ps sp) (h : j ≤ k) :
    FnG P w K mg base CX k f fd ps sp := ⟨F.len, fun A outer s H args us vs Q E hg hr => F.run A outer s H args us vs Q E hg (hr.mono h)⟩
theorem fn_ofG {CX : CXT} {P : Program} {w : World} {K : PySem.W.Frag} {mg : Str → Option Value} {base : Heap} {k : Nat} {f : Addr} {name qual : Str} {params : Arguments} {body : List Stmt} {scope : Scope} {dV kV doc pm cdv ct oc : Value} {an od : Option Addr}
    {osl : Array (Option Value)} {N ps : List Str} {sp : Sp} (lk : K.lookup f = some ⟨oc, od, .func (PySem.W.fnOf name qual params body scope dV kV doc pm an cdv ct), osl⟩) (hcd : PySem.W.codeIn K cdv qual = true) (S : FnScope N ps scope)
    (len : ∀ vs H Q E, sp vs H Q E → vs.length = ps.length)
    (hbody : ∀ (A : Around) (outer : List PySem.Env) (s : Shared) (H : Hp) (vs : List V) (Q : VK) (E : XK), (A.deeper (envOfC qual scope s.heap.objs.size f cdv)).guards = some [] → Room k (A.deeper (envOfC qual scope s.heap.objs.size f cdv)) → sp vs H Q E →
      ∃ t, PSs (cxOf CX P w K mg base N qual scope f cdv A outer s H E) body t ∧ t { nx := fun _ H' => Q .non H', rt := Q } (L2.start N vs) H) :
    FnG P w K mg base CX (k + 1) f (PySem.W.fnOf name qual params body scope dV kV doc pm an cdv ct) ps sp := by
  refine ⟨len, fun A outer s H args us vs Q E hgd hr e0 hb r hsp => ?_⟩
  have hl := len _ _ _ _ hsp
  have KX : K.In s.heap := e0.mod.kin.keeps fun b o e => (e0.bs b o e).1
  have lim : s.heap.NoLimit := e0.mod.nolimit.keeps fun b o e => (e0.bs b o e).1
  have hkind : ∀ y ∈ ps.zip us, scope.names.lookup y.1 = some .local ∨ (scope.names.lookup y.1 = some .cell ∧ ((cellsFrom (s.heap.objs.size + 1) scope.names []).lookup y.1).isSome = true) := fun ⟨n, v⟩ hy => by
    rcases S.par n (List.of_mem_zip hy).1 with q | q
    · exact .inl q
    · exact .inr ⟨q, PySem.W.cellsFrom_some _ _ _ (.inl q)⟩
  refine codeAny_call_function hr.depth (KX _ _ lk) rfl S.co S.gen rfl (PySem.W.codeRec_of KX hcd) (hb _ _ _ _ ?_)
  refine wpAny_newFunctionEnv_cells S.kind hkind fun env he s1 x => ?_
  subst he
  refine ⟨lim.keeps x.toInCall.keep, codeAny_func ?_⟩
  obtain ⟨t, ht, hq⟩ := hbody A outer s H vs Q E hgd (hr.deeper _) hsp
  have I : Inv (cxOf CX P w K mg base N qual scope f cdv A outer s H E) [] (L2.start N vs) H s1 := inv_start S hr.hd e0 hl r x
  refine wpAny_mono (ht.run [] s1 (L2.start N vs) H _ I hq) (fun fl s' hs => ?_) fun e s' hs => hs
  have fin : ∀ {σ' : L2.St} {H' : Hp} {v : V} {u : Value}, Inv (cxOf CX P w K mg base N qual scope f cdv A outer s H E) [] σ' H' s' → RelV v u → Q v H' → CE outer P w H s Q u s' :=
    fun {σ' H' v u} J rv q => ⟨v, H', J.os, J.bare, J.base, J.hok, rv, q⟩
  cases fl with
  | ret u =>
    obtain ⟨v, σ', H', J, rv, q⟩ := hs
    exact fin J rv q
  | next =>
    obtain ⟨σ', H', J, q⟩ := hs
    exact fin (v := V.non) (u := Value.none) J rfl q
  | brk =>
    obtain ⟨_, _, _, q⟩ := hs
    exact False.elim q
  | cont =>
    obtain ⟨_, _, _, q⟩ := hs
    exact False.elim q
/-! ### calls -/
section
variable {Y : WX} {X : Cx} {CX : CXT} {k : Nat} {f C : Addr} {fd : FuncData} {ps : List Str} {sp : Sp} {E : XK} {x m : Str} {p pos apos : Pos} {e o : Expr} {es : List Expr} {ta : TE} {t : TA}
/-- the def at f, called with what binds to us -/
theorem run_fnG {pins : List (Addr × Obj)} {σ : L2.St} {H : Hp} {s : Shared} {Q : VK} {us zs : List Value} {kw : List (Str × Value)} {vs : List V} (F : FnG X.prog X.w X.K X.mg X.base CX k f fd ps sp) (hgd : X.A.guards = some []) (hr : Room k X.A) (hx : PassesAt CX X σ E)
    (I : Inv X pins σ H s) (hb : BindsTo s fd ⟨us, kw⟩ (ps.zip zs)) (r : Vals vs zs) (h : sp vs H Q E) : wpAny (model X.prog X.w) X.A (call (.ref f) us kw) (EP X pins σ Q) X.xe s := by
  have go := F.run X.A X.stack s H ⟨us, kw⟩ zs vs Q E hgd hr I.env0 hb r h
  refine wpAny_call (codeAny_mono go fun res s' hq => ?_)
  match res, hq with
  | .error e, hq => exact hx pins H s e s' I hq
  | .ok (.ret u), hq => exact I.after hq
  | .ok .next, hq => exact False.elim hq
  | .ok .brk, hq => exact False.elim hq
  | .ok .cont, hq => exact False.elim hq
/-- f(e, ..) -/
theorem pe_callG {E : L2.St → XK} (F : FnG X.prog X.w X.K X.mg X.base CX k f fd ps sp) (hgd : X.A.guards = some []) (hr : Room k X.A) (hg : Gl X x) (hm : X.mg x = some (.ref f)) (hk : PySem.W.keepIn X.K (.ref f) = true) (hb : Binds X.K fd ps []) (hx : ∀ σ, PassesAt CX X σ (E σ))
    (ha : PA X (e :: es) t) (hdb : (x == ("__debug__" : Str)) = false := by decide) (he : starEach (e :: es) X.env = (false, eval e X.env) :: starEach es X.env := by rfl) (hpl : (backTo pos (starEach es X.env)).any (·.1) = false := by rfl) :
    PE X (.Call (.Name x p) (e :: es) [] pos) (tCallS sp E t) := by
  refine ⟨fun pins s σ H Q I h => wpAny_Call_Name_kw (ld_glob I hg hm ?_ hdb)⟩
  have I0 := I.ok.mod.kin
  refine PySem.W.callWith_K (h₀ := X.base) I0 hk (thn (ha.run pos pins s σ H _ I h) ?_) he hpl
  rintro us s1 ⟨vs, H1, I1, r, q⟩
  have hl : (us ++ []).length = ps.length := by rw [List.append_nil, ← r.length]; exact F.len _ _ _ _ q
  have bd := hb s1 us I1.kIn hl
  rw [List.append_nil] at bd
  exact ⟨I1.kIn, run_fnG F hgd hr (hx σ) I1 bd r q⟩
end
/-! ### promises by computations -/
abbrev RR := Res (List MO) PV
abbrev Fn := Nat → List PV → List MO → RR
structure Grow (W W' : Vw) (H H' : Hp) : Prop where
  keep : ∀ a o, H a = some o → a ∉ W.hs → H' a = some o
  gro : ∀ a, H a ≠ none → W'.F a = W.F a ∧ (a ∈ W'.hs → a ∈ W.hs)
def SpPost (K : PySem.W.Frag) (W : Vw) (H : Hp) (Q : VK) (E : XK) : RR → Prop
  | .ok d st' => ∀ v W' H', W.Le W' → Okk K W' st' H' → Grow W W' H H' → Rep K W' v d → Q v H'
  | .exc e st' => ∀ W' H' cls d, W.Le W' → Okk K W' st' H' → Grow W W' H H' → ERep K W' cls d e → E cls d H'
  | .stk => False
def spM (K : PySem.W.Frag) (np : Nat) (m : Fn) : Sp := fun vs H Q E => vs.length = np ∧ ∃ n W st ds, Okk K W st H ∧ Reps K W vs ds ∧ SpPost K W H Q E (m n ds st)
def callM (m : Fn) (n : Nat) (cs : M (List PV)) : M PV := bnd cs fun ds s => match m n ds s.sto with
  | .ok d st' => .ok d { s with sto := st' }
  | .exc e st' => .exc e { s with sto := st' }
  | .stk => .stk
section
variable {Y : WX} {K : PySem.W.Frag} {C : Ctx} {W W' : Vw} {σ : L2.St} {H H' : Hp} {s : S} {Q : VK} {E : XK} {np n : Nat} {m : Fn} {cs : M (List PV)}
theorem At.call {st' : List MO} (h : At K C W s σ H) (l : W.Le W') (ok : Okk K W' st' H') (g : Grow W W' H H') : At K C W' { s with sto := st' } σ H' := by
  have tr : ∀ {a : Addr}, C.G a ≠ none → H a ≠ none := fun {a} ha => by
    cases e : C.G a with
    | none => exact absurd e ha
    | some o =>
      by_cases hm : a ∈ C.hs0
      · obtain ⟨i, hi⟩ := List.getElem?_of_mem hm
        exact h.ok.some (h.pre i a hi)
      · rw [h.keep a o e hm]
        exact fun z => nomatch z
  refine ⟨ok, fun a o e ha => ?_, fun i a e => l.pre i a (h.pre i a e), fun a ha => ?_, h.len, fun i d e => ?_, fun i xs e => ?_, h.dst⟩
  · refine g.keep a o (h.keep a o e ha) fun hm => ha ?_
    exact (h.gro a (by rw [e]; exact fun z => nomatch z)).2 hm
  · obtain ⟨g1, g2⟩ := g.gro a (tr ha)
    obtain ⟨k1, k2⟩ := h.gro a ha
    exact ⟨g1.trans k1, fun z => k2 (g2 z)⟩
  · obtain ⟨v, e1, r⟩ := h.val i d e
    exact ⟨v, e1, r.mono l⟩
  · obtain ⟨a, vs, e1, ow, e2, r⟩ := h.own i xs e
    obtain ⟨g1, g2⟩ := g.gro a (by rw [e2]; exact fun z => nomatch z)
    exact ⟨a, vs, e1, ⟨g1.trans ow.f, fun z => ow.h (g2 z), ow.g⟩, g.keep a _ e2 ow.h, r.mono l⟩
theorem den_call (hl : ∀ ds st, m n ds st ≠ .stk → ds.length = np) (h : den K Y (callM m n cs) σ H Q) : tCallS (spM K np m) (WE Y) (denA K Y cs) σ H Q := by
  obtain ⟨C, W, s, at', p⟩ := h
  refine ⟨C, W, s, at', (Pst.bnd p).imp fun ds s1 W1 H1 l1 at1 p1 vs rvs => ?_⟩
  show spM K np m vs H1 Q (WE Y σ)
  have len : ∀ {r : RR}, m n ds s1.sto = r → r ≠ .stk → vs.length = np := fun {r} e z => by rw [rvs.length]; exact hl _ _ (by rw [e]; exact z)
  cases e : m n ds s1.sto with
  | exc x st' =>
    simp only [e] at p1
    refine ⟨len e (fun z => nomatch z), n, W1, s1.sto, ds, at1.ok, rvs, ?_⟩
    rw [e]
    exact fun W' H' cls d l ok g r => p1 W' σ H' cls d l (at1.call l ok g) r
  | stk => simp only [e] at p1; exact p1.elim
  | ok d st' =>
    simp only [e] at p1
    refine ⟨len e (fun z => nomatch z), n, W1, s1.sto, ds, at1.ok, rvs, ?_⟩
    rw [e]
    exact fun v W' H' l ok g r => p1 W' H' l (at1.call l ok g) v r
/-- a def's answer from its body's -/
def fnM (np nn : Nat) (body : Nat → M Fl) : Fn := fun n ds st => if ds.length = np then (match body n ⟨ds.map (fun d => some (SV.val d)) ++ List.replicate (nn - np) none, st⟩ with
  | .ok (.rt d) s' => .ok d s'.sto
  | .ok (.ro xs) s' => .ok (.lst xs) s'.sto
  | .ok .nx s' => .ok .non s'.sto
  | .ok .bk _ => .stk
  | .ok .ct _ => .stk
  | .exc e s' => .exc e s'.sto
  | .stk => .stk) else .stk
theorem fnM_len {nn : Nat} {body : Nat → M Fl} {ds : List PV} {st : List MO} (h : fnM np nn body n ds st ≠ .stk) : ds.length = np := by
  unfold fnM at h
  split at h
  · assumption
  · exact absurd rfl h
end
/-- a def's wish about exceptions, in its body -/
abbrev yE (E : XK) : WX := fun cls d _ H => E cls d H
/-- a body's start -/
theorem start_den {K : PySem.W.Frag} {N ps : List Str} {body : Nat → M Fl} {vs : List V} {H : Hp} {Q : VK} {E : XK} (hN : ps.length ≤ N.length) (hsp : spM K ps.length (fnM ps.length N.length body) vs H Q E) :
    ∃ n, denS K (yE E) (body n) { nx := fun _ H' => Q .non H', rt := Q } (L2.start N vs) H := by
  obtain ⟨hl, n, W, sto, ds, ok, rv, post⟩ := hsp
  have hds : ds.length = ps.length := by rw [← rv.length]; exact hl
  refine ⟨n, ⟨H, W.F, W.hs, yE E⟩, W, ⟨ds.map (fun d => some (SV.val d)) ++ List.replicate (N.length - ps.length) none, sto⟩, ?_, ?_⟩
  · refine ⟨ok, fun a o e _ => e, fun i a e => e, fun a _ => ⟨rfl, fun z => z⟩, ?_, fun i d e => ?_, fun i xs e => ?_, fun i j xs ys a h1 _ _ _ => ?_⟩
    · unfold L2.start
      rw [List.length_append, List.length_append, List.length_map, List.length_map, List.length_replicate, List.length_replicate, hl, hds]
    · have e : (ds.map (fun d => some (SV.val d)) ++ List.replicate (N.length - ps.length) none)[i]? = some (some (.val d)) := e
      by_cases hi : i < ds.length
      · rw [List.getElem?_append_left (by rw [List.length_map]; exact hi), List.getElem?_map] at e
        obtain ⟨d', hd', e2⟩ := Option.map_eq_some_iff.mp e
        cases e2
        obtain ⟨v, hv, r⟩ := rv.get hd'
        refine ⟨v, ?_, r⟩
        unfold L2.start
        rw [List.getElem?_append_left (by rw [List.length_map, hl, ← hds]; exact hi), List.getElem?_map, hv]
        rfl
      · rw [List.getElem?_append_right (by rw [List.length_map]; omega), List.getElem?_replicate] at e
        split at e <;> cases e
    · have e : (ds.map (fun d => some (SV.val d)) ++ List.replicate (N.length - ps.length) none)[i]? = some (some (.own xs)) := e
      by_cases hi : i < ds.length
      · rw [List.getElem?_append_left (by rw [List.length_map]; exact hi), List.getElem?_map] at e
        obtain ⟨d', hd', e2⟩ := Option.map_eq_some_iff.mp e
        cases e2
      · rw [List.getElem?_append_right (by rw [List.length_map]; omega), List.getElem?_replicate] at e
        split at e <;> cases e
    · have e : (ds.map (fun d => some (SV.val d)) ++ List.replicate (N.length - ps.length) none)[i]? = some (some (.own xs)) := h1
      by_cases hi : i < ds.length
      · rw [List.getElem?_append_left (by rw [List.length_map]; exact hi), List.getElem?_map] at e
        obtain ⟨d', hd', e2⟩ := Option.map_eq_some_iff.mp e
        cases e2
      · rw [List.getElem?_append_right (by rw [List.length_map]; omega), List.getElem?_replicate] at e
        split at e <;> cases e
  · unfold fnM at post
    rw [if_pos hds] at post
    cases e : body n ⟨ds.map (fun d => some (SV.val d)) ++ List.replicate (N.length - ps.length) none, sto⟩ with
    | exc x s' =>
      simp only [e] at post
      exact fun W' σ' H' cls d l a r => post W' H' cls d l a.ok ⟨fun b o e hb => a.keep b o e hb, fun b hb => a.gro b hb⟩ r
    | stk => simp only [e] at post; exact post.elim
    | ok fl s' =>
      simp only [e] at post
      have gr : ∀ {W' : Vw} {σ' : L2.St} {H' : Hp} {z : S}, At K ⟨H, W.F, W.hs, yE E⟩ W' z σ' H' → Grow W W' H H' := fun a => ⟨fun b o e hb => a.keep b o e hb, fun b hb => a.gro b hb⟩
      cases fl with
      | nx => exact fun W' σ' H' l a => post .non W' H' l a.ok (gr a) .non
      | rt d => exact fun W' σ' H' l a v rv => post v W' H' l a.ok (gr a) rv
      | ro xs =>
        intro W' σ' H' l a b vs ow e2 r
        obtain ⟨l2, a2⟩ := a.adopt ow e2
        exact post _ _ H' (l.trans l2) a2.ok (gr a2) (.lst upd_same (r.mono l2))
      | bk => exact post.elim
      | ct => exact post.elim
/-- a def of the text behind the top, whatever its defaults -/
structure Fun (K : PySem.W.Frag) (x qual : Str) (st : Stmt) (f : Addr) (fd : FuncData) : Prop where
  ex : ∃ (oc : Value) (od : Option Addr) (dV kV doc pm : Value) (an : Option Addr) (cdv ct : Value) (osl : Array (Option Value)),
    fd = PySem.W.fnOf x qual (defArgs st) (defBody st) (defScope st) dV kV doc pm an cdv ct ∧ K.lookup f = some ⟨oc, od, .func fd, osl⟩ ∧ PySem.W.codeIn K cdv qual = true
  kp : PySem.W.keepIn K (.ref f) = true
theorem funMk {K : PySem.W.Frag} {x qual : Str} {st : Stmt} {f : Addr} {oc : Value} {od an : Option Addr} {osl : Array (Option Value)} {dV kV doc pm cdv ct : Value} (l : K.lookup f = some ⟨oc, od, .func (PySem.W.fnOf x qual (defArgs st) (defBody st) (defScope st) dV kV doc pm an cdv ct), osl⟩)
    (c : PySem.W.codeIn K cdv qual = true) (k : PySem.W.keepIn K (.ref f) = true) : Fun K x qual st f (PySem.W.fnOf x qual (defArgs st) (defBody st) (defScope st) dV kV doc pm an cdv ct) := ⟨⟨oc, od, dV, kV, doc, pm, an, cdv, ct, osl, rfl, l, c⟩, k⟩
/-- THE RULE: a def keeps the promise of its computation -/
theorem fn_den {P : Program} {w : World} {K : PySem.W.Frag} {mg : Str → Option Value} {base : Heap} {k : Nat} {f : Addr} {fd : FuncData} {x qual : Str} {st : Stmt} {N ps : List Str} {body : Nat → M Fl}
    (F : Fun K x qual st f fd) (S : FnScope N ps (defScope st)) (hN : ps.length ≤ N.length)
    (hbody : ∀ (cdv : Value) (A : Around) (outer : List PySem.Env) (s : Shared) (H : Hp) (E : XK) (n : Nat), (A.deeper (envOfC qual (defScope st) s.heap.objs.size f cdv)).guards = some [] → Room k (A.deeper (envOfC qual (defScope st) s.heap.objs.size f cdv)) →
      Takes (cxOf (L2.CX P w) P w K mg base N qual (defScope st) f cdv A outer s H E) (yE E) →
      PSs (cxOf (L2.CX P w) P w K mg base N qual (defScope st) f cdv A outer s H E) (defBody st) (denS K (yE E) (body n))) :
    FnG P w K mg base (L2.CX P w) (k + 1) f fd ps (spM K ps.length (fnM ps.length N.length body)) := by
  obtain ⟨oc, od, dV, kV, doc, pm, an, cdv, ct, osl, rfl, lk, hcd⟩ := F.ex
  refine fn_ofG lk hcd S (fun vs H Q E h => h.1) fun A outer s H vs Q E hgd hr hsp => ?_
  obtain ⟨n, h⟩ := start_den hN hsp
  exact ⟨_, hbody cdv A outer s H E n hgd hr (takes_of rfl rfl rfl rfl), h⟩
/-! ### repr -/
end Dn
/-! Den6: sorted. -/
namespace Dn
open PySem L2 PySem.Spec PyProof.Rows
/-! ### texts in order -/
/-! ### a tuple collected -/
/-! ### by a key: stable -/
/-! ### sorted(xs, key=len), the items tuples -/
end Dn
/-! Den7: the rules in short, one for each form of Python. -/
namespace Dn
open PySem L2 PySem.Spec PyProof.Rows
theorem bo_len : bootBuiltins "len" = some (.builtin "len") := by decide +kernel
theorem bo_abs : bootBuiltins "abs" = some (.builtin "abs") := by decide +kernel
theorem bo_all : bootBuiltins "all" = some (.builtin "all") := by decide +kernel
theorem bo_int : bootBuiltins "int" = some (.type "int") := by decide +kernel
theorem bo_list : bootBuiltins "list" = some (.type "list") := by decide +kernel
section
variable {Y : WX} {X : Cx} {a b c e o : Expr} {es : List Expr} {ca cb cd ce : M PV} {ta tb tc : M Bool} {pos p px : Pos} {i j k : Nat}
/-! ### names, constants -/
theorem xv (i : Nat) {x : Str} {pos : Pos} (hN : X.N[i]? = some x := by rfl) (hv : Vis X.env.scope x := by first | exact Or.inl rfl | exact Or.inr (Or.inl rfl) | exact Or.inr (Or.inr rfl)) (hd : (x == ("__debug__" : Str)) = false := by decide)
    (hcd : (x == ("__classdict__" : Str)) = false := by decide) : PE X (.Name x pos) (den X.K Y (var i)) := pe_imp (pe_var hN hv hd hcd) fun _ _ _ => den_var
theorem xint {n : Int} {j pos} : PE X (.Constant (.int n) j pos) (den X.K Y (ret (.int n))) := pe_imp pe_int fun _ _ _ h => den_ret h fun _ => .int n
theorem xstr {x : Str} {j pos} : PE X (.Constant (.str x) j pos) (den X.K Y (ret (.str x))) := pe_imp pe_str fun _ _ _ h => den_ret h fun _ => .str x
theorem xbl {b : Bool} {j pos} : PE X (.Constant (.bool b) j pos) (den X.K Y (ret (.bl b))) := pe_imp pe_bl fun _ _ _ h => den_ret h fun _ => .bl b
theorem xnon {j pos} : PE X (.Constant .none j pos) (den X.K Y (ret .non)) := pe_imp pe_non fun _ _ _ h => den_ret h fun _ => .non
/-! ### operators -/
abbrev opAdd (a b : PV) : M PV := lft (addP a b)
abbrev opSub (a b : PV) : M PV := lft (subP a b)
abbrev opMul (a b : PV) : M PV := lft (mulP a b)
abbrev opDiv (a b : PV) : M PV := lft (fdivP a b)
abbrev opMod (a b : PV) : M PV := lft (modP a b)
abbrev opPow (a b : PV) : M PV := lft (powP a b)
theorem xadd (ha : PE X a (den X.K Y ca)) (hb : PE X b (den X.K Y cb)) : PE X (.BinOp a .Add b pos) (den X.K Y (bin ca cb opAdd)) := pe_imp (pe_op op_addU ha hb) fun _ _ _ => den_bin bin_add
theorem xsub (ha : PE X a (den X.K Y ca)) (hb : PE X b (den X.K Y cb)) : PE X (.BinOp a .Sub b pos) (den X.K Y (bin ca cb opSub)) := pe_imp (pe_op op_sub ha hb) fun _ _ _ => den_bin bin_sub
theorem xmul (ha : PE X a (den X.K Y ca)) (hb : PE X b (den X.K Y cb)) : PE X (.BinOp a .Mult b pos) (den X.K Y (bin ca cb opMul)) := pe_imp (pe_op (op_or2 op_mulW op_rep) ha hb) fun _ _ _ => den_bin bin_mul
theorem xfdiv (ha : PE X a (den X.K Y ca)) (hb : PE X b (den X.K Y cb)) : PE X (.BinOp a .FloorDiv b pos) (den X.K Y (bin ca cb opDiv)) := pe_imp (pe_op op_fdivW ha hb) fun _ _ _ => den_bin bin_fdiv
theorem xmod (ha : PE X a (den X.K Y ca)) (hb : PE X b (den X.K Y cb)) : PE X (.BinOp a .Mod b pos) (den X.K Y (bin ca cb opMod)) := pe_imp (pe_op op_mod ha hb) fun _ _ _ => den_bin bin_mod
theorem xpow (ha : PE X a (den X.K Y ca)) (hb : PE X b (den X.K Y cb)) : PE X (.BinOp a .Pow b pos) (den X.K Y (bin ca cb opPow)) := pe_imp (pe_op op_pow ha hb) fun _ _ _ => den_bin bin_pow
/-! ### comparisons: by the rule of the operator -/
structure CmpOk (X : Cx) (op : CmpOp) (f : PV → PV → M PV) : Prop where
  ok : ∃ r, OpR X (compareOp op) r ∧ Bin r X.K f
abbrev opLt (a b : PV) : M PV := lft (ordP (fun i j => decide (i < j)) a b)
abbrev opLe (a b : PV) : M PV := lft (ordP (fun i j => decide (i ≤ j)) a b)
abbrev opGt (a b : PV) : M PV := lft (ordP (fun i j => decide (j < i)) a b)
abbrev opGe (a b : PV) : M PV := lft (ordP (fun i j => decide (j ≤ i)) a b)
abbrev opEq (a b : PV) : M PV := lft (eqP false a b)
abbrev opNe (a b : PV) : M PV := lft (eqP true a b)
abbrev opIn (a b : PV) : M PV := lft (inP false a b)
theorem k_lt : CmpOk X .Lt opLt := ⟨_, op_lt, bin_ord⟩
theorem k_le : CmpOk X .LtE opLe := ⟨_, op_le, bin_ord⟩
theorem k_gt : CmpOk X .Gt opGt := ⟨_, op_gt, bin_ord⟩
theorem k_ge : CmpOk X .GtE opGe := ⟨_, op_ge, bin_ord⟩
theorem k_eq (hu : X.A.units + 128 < cLine) : CmpOk X .Eq opEq := ⟨_, op_or2 op_eq (op_eqD (by omega)), bin_eq⟩
theorem k_ne (hu : X.A.units + 128 < cLine) : CmpOk X .NotEq opNe := ⟨_, op_or2 op_ne (op_neD (by omega)), bin_ne⟩
theorem k_in (hu : X.A.units + 128 < cLine) : CmpOk X .In opIn := ⟨_, op_or2 (op_or2 op_in_seq (op_inD (by omega))) op_in_sign, bin_in⟩
theorem xcmp {op : CmpOp} {f : PV → PV → M PV} (h : CmpOk X op f) (ha : PE X a (den X.K Y ca)) (hb : PE X b (den X.K Y cb)) (hm : behindInMarks op b = false := by first | exact nomark _ | rfl) : PE X (.Compare a [op] [b] pos) (den X.K Y (bin ca cb f)) := by
  obtain ⟨r, h1, h2⟩ := h.ok
  exact pe_imp (pe_cmpR h1 ha hb hm) fun _ _ _ => den_bin h2
/-! ### tests -/
theorem tcmp {op : CmpOp} {f : PV → PV → M PV} (h : CmpOk X op f) (ha : PE X a (den X.K Y ca)) (hb : PE X b (den X.K Y cb)) (hm : behindInMarks op b = false := by first | exact nomark _ | rfl) : PT X (.Compare a [op] [b] pos) (denT X.K Y (asB (bin ca cb f))) := by
  obtain ⟨r, h1, h2⟩ := h.ok
  exact pt_imp (pt_cmpR h1 ha hb hm) fun _ _ _ q => den_bin h2 (den_asB q)
theorem tisN (ha : PE X a (den X.K Y ca)) {j p2} : PT X (.Compare a [.Is] [.Constant .none j p2] pos) (denT X.K Y (asB (isN false ca))) := pt_imp (pt_cmp (pc_isN ha) rfl) fun _ _ _ q => den_isN (den_asB q)
theorem tnotN (ha : PE X a (den X.K Y ca)) {j p2} : PT X (.Compare a [.IsNot] [.Constant .none j p2] pos) (denT X.K Y (asB (isN true ca))) := pt_imp (pt_cmp (pc_notN ha) rfl) fun _ _ _ q => den_notN (den_asB q)
theorem tval (ha : PE X a (den X.K Y ca)) (he : ∀ whole, isTrue a X.env whole = (do let v ← whole; standAt a.pos; holding [v] (truthy v)) := by intro _; rfl) : PT X a (denT X.K Y (asB ca)) := pt_imp (pt_val ha he) fun _ _ _ q => den_asB q
theorem wand (ha : PT X a (denT X.K Y ta)) (hb : PW X (.BoolOp .And (b :: es) pos) (denT X.K Y tb)) : PW X (.BoolOp .And (a :: b :: es) pos) (denT X.K Y (andT ta tb)) := pw_imp (pw_and ha hb) fun _ _ _ => den_and
theorem wor (ha : PT X a (denT X.K Y ta)) (hb : PW X (.BoolOp .Or (b :: es) pos) (denT X.K Y tb)) : PW X (.BoolOp .Or (a :: b :: es) pos) (denT X.K Y (orT ta tb)) := pw_imp (pw_or ha hb) fun _ _ _ => den_or
theorem tnot (ha : PT X a (denT X.K Y ta)) : PT X (.UnaryOp .Not a pos) (denT X.K Y (notT ta)) := pt_imp (pt_not ha) fun _ _ _ => den_not
theorem xand (ha : PE X a (den X.K Y ca)) (hb : PE X (.BoolOp .And (b :: es) pos) (den X.K Y cb)) : PE X (.BoolOp .And (a :: b :: es) pos) (den X.K Y (andV ca cb)) := pe_imp (pe_and ha hb) fun _ _ _ => den_andV
theorem xnot (ha : PE X a (den X.K Y ca)) : PE X (.UnaryOp .Not a pos) (den X.K Y (notV ca)) := pe_imp (pe_not ha) fun _ _ _ => den_notV
theorem xif (hc : PT X c (denT X.K Y tc)) (ha : PE X a (den X.K Y ca)) (hb : PE X b (den X.K Y cb)) : PE X (.IfExp c a b pos) (den X.K Y (iteT tc ca cb)) := pe_imp (pe_ifExp hc ha hb) fun _ _ _ => den_ite
/-! ### arguments, displays -/
theorem anil : PA X [] (denA X.K Y argN) := pa_imp pa_nil fun _ _ _ => den_argN
theorem acons {r : M (List PV)} (ha : PE X e (den X.K Y ce)) (hr : PA X es (denA X.K Y r)) (hs : starEach (e :: es) X.env = (false, eval e X.env) :: starEach es X.env := by rfl) : PA X (e :: es) (denA X.K Y (argC ce r)) := pa_imp (pa_cons ha hr hs) fun _ _ _ => den_argC
theorem xtup {cs : M (List PV)} {n} (h : PA X es (denA X.K Y cs)) : PE X (.Tuple es n pos) (den X.K Y (tupM cs)) := pe_imp (pe_tup h) fun _ _ _ => den_tup
theorem olst {cs : M (List PV)} (h : PA X es (denA X.K Y cs)) : PE X (.List es pos) (denO X.K Y (fits cs)) := pe_imp (pe_lst h) fun _ _ _ => denO_lst
/-- a new list, frozen at once -/
theorem xo {cs : M (List PV)} (h : PE X e (denO X.K Y cs)) : PE X e (den X.K Y (lstM cs)) := pe_imp h fun _ _ _ => denO_den
/-! ### subscripts, slices -/
abbrev opIx (a b : PV) : M PV := lft (ixP a b)
theorem xix (ha : PE X a (den X.K Y ca)) (hb : PE X b (den X.K Y cb)) (hs : PlainIx b := by intro _ _; rfl) : PE X (.Subscript a b pos) (den X.K Y (bin ca cb opIx)) := pe_imp (pe_ix ix_seq ha hb hs) fun _ _ _ => den_bin bin_ix
theorem qN : PO X none (denP X.K Y parN) := ⟨fun pins s σ H Q I h => po_none.run pins s σ H Q I (den_parN h)⟩
theorem qS (h : PE X e (den X.K Y ce)) : PO X (some e) (denP X.K Y (parS ce)) := ⟨fun pins s σ H Q I q => (po_some h).run pins s σ H Q I (den_parS q)⟩
theorem xsl {lo hi : Option Expr} {cl ch : M (Option Int)} {p2} (h : PE X e (den X.K Y ce)) (hl : PO X lo (denP X.K Y cl)) (hh : PO X hi (denP X.K Y ch)) : PE X (.Subscript e (.Slice lo hi none p2) pos) (den X.K Y (slM ce cl ch)) := pe_imp (pe_slice sl_u h hl hh) fun _ _ _ => den_sl
theorem xhget (hu : X.A.units + 128 < cLine) (ha : PE X a (den X.K Y ca)) (hb : PE X b (den X.K Y cb)) (hs : NoSl b := by intro _ _; rfl) : PE X (.Subscript a b pos) (den X.K Y (bin ca cb hgetP)) := pe_imp (pe_dget (by omega) ha hb hs) fun _ _ _ => den_hget
/-! ### built-ins -/
theorem xb {id : String} {x : Str} {r : List V → Hp → VK → Prop} {f : PV → M PV} (hc : CallR X (.builtin id) r) (hf : Fn1 r X.K f) (hv : bootBuiltins x = some (.builtin id)) (hm : X.mg x = none) (ha : PE X e (den X.K Y ce)) (hg : Gl X x := by rfl) (hn : x ≠ "__name__" := by decide) (hdb : (x == ("__debug__" : Str)) = false := by decide)
    (he : starEach [e] X.env = (false, eval e X.env) :: starEach [] X.env := by rfl) (hpl : (backTo pos (starEach [] X.env)).any (·.1) = false := by rfl) : PE X (.Call (.Name x p) [e] [] pos) (den X.K Y (bnd ce f)) :=
  pe_imp (pe_callB hc hg hm hv (pa_cons ha pa_nil he) hn hdb he hpl) fun _ _ _ => den_fn1 hf
theorem xt {T : String} {x : Str} {r : List V → Hp → VK → Prop} {f : PV → M PV} (hc : CallR X (.type T) r) (hf : Fn1 r X.K f) (hv : bootBuiltins x = some (.type T)) (hm : X.mg x = none) (ha : PE X e (den X.K Y ce)) (hg : Gl X x := by rfl) (hn : x ≠ "__name__" := by decide) (hdb : (x == ("__debug__" : Str)) = false := by decide)
    (he : starEach [e] X.env = (false, eval e X.env) :: starEach [] X.env := by rfl) (hpl : (backTo pos (starEach [] X.env)).any (·.1) = false := by rfl) : PE X (.Call (.Name x p) [e] [] pos) (den X.K Y (bnd ce f)) :=
  pe_imp (pe_callTy hc hg hm hv (pa_cons ha pa_nil he) hn hdb he hpl) fun _ _ _ => den_fn1 hf
theorem ob {id : String} {x : Str} {r : List V → Hp → VK → Prop} {f : PV → M (List PV)} (hc : CallR X (.builtin id) r) (hf : Fn1O r X.K f) (hv : bootBuiltins x = some (.builtin id)) (hm : X.mg x = none) (ha : PE X e (den X.K Y ce)) (hg : Gl X x := by rfl) (hn : x ≠ "__name__" := by decide) (hdb : (x == ("__debug__" : Str)) = false := by decide)
    (he : starEach [e] X.env = (false, eval e X.env) :: starEach [] X.env := by rfl) (hpl : (backTo pos (starEach [] X.env)).any (·.1) = false := by rfl) : PE X (.Call (.Name x p) [e] [] pos) (denO X.K Y (bnd ce f)) :=
  pe_imp (pe_callB hc hg hm hv (pa_cons ha pa_nil he) hn hdb he hpl) fun _ _ _ => denO_fn1 hf
theorem ot {T : String} {x : Str} {r : List V → Hp → VK → Prop} {f : PV → M (List PV)} (hc : CallR X (.type T) r) (hf : Fn1O r X.K f) (hv : bootBuiltins x = some (.type T)) (hm : X.mg x = none) (ha : PE X e (den X.K Y ce)) (hg : Gl X x := by rfl) (hn : x ≠ "__name__" := by decide) (hdb : (x == ("__debug__" : Str)) = false := by decide)
    (he : starEach [e] X.env = (false, eval e X.env) :: starEach [] X.env := by rfl) (hpl : (backTo pos (starEach [] X.env)).any (·.1) = false := by rfl) : PE X (.Call (.Name x p) [e] [] pos) (denO X.K Y (bnd ce f)) :=
  pe_imp (pe_callTy hc hg hm hv (pa_cons ha pa_nil he) hn hdb he hpl) fun _ _ _ => denO_fn1 hf
abbrev fLen (a : PV) : M PV := lft (lenP a)
abbrev fAbs (a : PV) : M PV := lft (absP a)
abbrev fInt (a : PV) : M PV := lft (intP a)
abbrev fAll (a : PV) : M PV := lft (allP a)
abbrev fTuple (a : PV) : M PV := lft (tupleP a)
abbrev fList (a : PV) : M (List PV) := lft (listP a)
theorem xlen (hm : X.mg "len" = none) (ha : PE X e (den X.K Y ce)) (hg : Gl X "len" := by rfl) (he : starEach [e] X.env = (false, eval e X.env) :: starEach [] X.env := by rfl) : PE X (.Call (.Name "len" p) [e] [] pos) (den X.K Y (bnd ce fLen)) := xb call_len fn_len bo_len hm ha hg (he := he)
theorem xabs (hm : X.mg "abs" = none) (ha : PE X e (den X.K Y ce)) (hg : Gl X "abs" := by rfl) (he : starEach [e] X.env = (false, eval e X.env) :: starEach [] X.env := by rfl) : PE X (.Call (.Name "abs" p) [e] [] pos) (den X.K Y (bnd ce fAbs)) := xb call_abs fn_abs bo_abs hm ha hg (he := he)
theorem xall (hc : X.calm = true) (hm : X.mg "all" = none) (ha : PE X e (den X.K Y ce)) (hg : Gl X "all" := by rfl) (he : starEach [e] X.env = (false, eval e X.env) :: starEach [] X.env := by rfl) : PE X (.Call (.Name "all" p) [e] [] pos) (den X.K Y (bnd ce fAll)) := xb (cr_all hc) fn_all bo_all hm ha hg (he := he)
theorem xtoint (hm : X.mg "int" = none) (ha : PE X e (den X.K Y ce)) (hg : Gl X "int" := by rfl) (he : starEach [e] X.env = (false, eval e X.env) :: starEach [] X.env := by rfl) : PE X (.Call (.Name "int" p) [e] [] pos) (den X.K Y (bnd ce fInt)) := xt call_int1 fn_int bo_int hm ha hg (he := he)
theorem olist (hm : X.mg "list" = none) (ha : PE X e (den X.K Y ce)) (hg : Gl X "list" := by rfl) (he : starEach [e] X.env = (false, eval e X.env) :: starEach [] X.env := by rfl) : PE X (.Call (.Name "list" p) [e] [] pos) (denO X.K Y (bnd ce fList)) := ot call_list_of fn_list bo_list hm ha hg (he := he)
/-! ### methods -/
theorem xjoin {apos : Pos} (ha : PE X o (den X.K Y ca)) (hb : PE X e (den X.K Y cb)) (hbase : attributeBase o "join" X.env (eval o X.env) = eval o X.env := by rfl) (hline : (apos.endLine == pos.line) = true := by rfl)
    (hs : starEach [e] X.env = [(false, eval e X.env)] := by rfl) :
    PE X (.Call (.Attribute o "join" apos) [e] [] pos) (den X.K Y (joinM ca cb)) := pe_imp (pe_join ha hb hs hbase hline) fun _ _ _ => den_join
end
end Dn
/-! Den8: statements, comprehensions, calls, in short. -/
namespace Dn
open PySem L2 PySem.Spec PyProof.Rows
/-- no exception is wanted -/
abbrev yF : WX := fun _ _ _ _ => False
section
variable {Y : WX} {X : Cx} {a b c e o : Expr} {es : List Expr} {ca cb cd ce : M PV} {ta tb tc : M Bool} {fa fb fc : M Fl} {pos p px : Pos} {i j k : Nat} {st : Stmt} {rest sa sb : List Stmt}
/-! ### blocks -/
theorem bnil : PSs X [] (denS X.K Y skipM) := pss_imp pss_nil fun _ _ _ => den_skip
theorem bone (h : PS X st (denS X.K Y fa)) : PSs X [st] (denS X.K Y fa) := pss_one h
theorem bcons (h : PS X st (denS X.K Y fa)) (r : PSs X rest (denS X.K Y fb)) : PSs X (st :: rest) (denS X.K Y (seqM fa fb)) := pss_imp (pss_cons h r) fun _ _ _ => den_seq
theorem sret (h : PE X e (den X.K Y ce)) : PS X (.Return (some e) pos) (denS X.K Y (retM ce)) := ps_imp (ps_ret h) fun _ _ _ => den_return
theorem sexpr (h : PE X e (den X.K Y ce)) (hs : swapsWith e none pos.line X.env = pure false := by rfl) : PS X (.Expr e pos) (denS X.K Y (dropM ce)) := ps_imp (ps_expr h hs) fun _ _ _ => den_drop
theorem sif (hc : PT X c (denT X.K Y tc)) (ha : PSs X sa (denS X.K Y fa)) (hb : PSs X sb (denS X.K Y fb)) : PS X (.If c sa sb pos) (denS X.K Y (ifM tc fa fb)) := ps_imp (ps_if hc ha hb) fun _ _ _ => den_if
/-! ### stores -/
theorem sset (i : Nat) {x : Str} (nd : X.N.Nodup) (he : PE X e (den X.K Y ce)) (hi : X.N[i]? = some x := by rfl) (hx : Loc X.env.scope x := by first | exact Or.inl rfl | exact Or.inr rfl) (hs : swapsWith e (some (.Name x px)) pos.line X.env = pure false := by rfl)
    (hf : X.fn x = true ∨ X.env.scope.names.lookup x = some .local := by first | exact .inl rfl | exact .inr rfl | assumption) : PS X (.Assign [.Name x px] e pos) (denS X.K Y (asgM i ce)) := ps_imp (ps_set nd hi hx he hs hf) fun _ _ _ => den_asg
theorem shput {cd ck cv : M PV} {d key v : Expr} {p2 : Pos} (hu : X.A.units + 128 < cLine) (hd : PE X d (den X.K Y cd)) (hk : PE X key (den X.K Y ck)) (hv : PE X v (den X.K Y cv)) (hs : swapsWith v (some (.Subscript d key p2)) pos.line X.env = pure false := by rfl) :
    PS X (.Assign [.Subscript d key p2] v pos) (denS X.K Y (hputM cd ck cv)) := ps_imp (ps_dput (by omega) hd hk hv hs) fun _ _ _ => den_hput
theorem spar2 (i j : Nat) {x y : Str} {kt k2 : Nat} {py pt pt2 : Pos} (hc : X.calm = true) (nd : X.N.Nodup) (ha : PE X a (den X.K Y ca)) (hb : PE X b (den X.K Y cb)) (hi : X.N[i]? = some x := by rfl) (hj : X.N[j]? = some y := by rfl) (hij : i ≠ j := by decide)
    (hx : X.env.scope.names.lookup x = some .local := by rfl) (hy : X.env.scope.names.lookup y = some .local := by rfl) (hw : swappedStores [.Tuple [.Name x px, .Name y py] kt pt] (.Tuple [a, b] k2 pt2) X.env = pure (some [x, y]) := by rfl)
    (hs : swapsWithSole [.Tuple [.Name x px, .Name y py] kt pt] (.Tuple [a, b] k2 pt2) pos.line X.env = pure false := by rfl) (h1 : starEach [a, b] X.env = (false, eval a X.env) :: starEach [b] X.env := by rfl) (h2 : starEach [b] X.env = (false, eval b X.env) :: starEach [] X.env := by rfl) :
    PS X (.Assign [.Tuple [.Name x px, .Name y py] kt pt] (.Tuple [a, b] k2 pt2) pos) (denS X.K Y (par2 i j ca cb)) := ps_imp (ps_par hc nd hi hj hij hx hy (pa_cons ha (pa_cons hb pa_nil h2) h1) hw hs) fun _ _ _ => den_par2
theorem spar2VO (i j : Nat) {x y : Str} {kt k2 : Nat} {py pt pt2 : Pos} {cb : M (List PV)} (hc : X.calm = true) (nd : X.N.Nodup) (ha : PE X a (den X.K Y ca)) (hb : PE X b (denO X.K Y cb)) (hi : X.N[i]? = some x := by rfl) (hj : X.N[j]? = some y := by rfl) (hij : i ≠ j := by decide)
    (hx : X.env.scope.names.lookup x = some .local := by rfl) (hy : X.env.scope.names.lookup y = some .local := by rfl) (hw : swappedStores [.Tuple [.Name x px, .Name y py] kt pt] (.Tuple [a, b] k2 pt2) X.env = pure (some [x, y]) := by rfl)
    (hs : swapsWithSole [.Tuple [.Name x px, .Name y py] kt pt] (.Tuple [a, b] k2 pt2) pos.line X.env = pure false := by rfl) (h1 : starEach [a, b] X.env = (false, eval a X.env) :: starEach [b] X.env := by rfl) (h2 : starEach [b] X.env = (false, eval b X.env) :: starEach [] X.env := by rfl) :
    PS X (.Assign [.Tuple [.Name x px, .Name y py] kt pt] (.Tuple [a, b] k2 pt2) pos) (denS X.K Y (par2VO i j ca cb)) := ps_imp (ps_par hc nd hi hj hij hx hy (pa_cons ha (pa_cons hb pa_nil h2) h1) hw hs) fun _ _ _ => den_par2VO
theorem spar3 (i j l : Nat) {x y z : Str} {kt k2 : Nat} {py pz pt pt2 : Pos} (hc : X.calm = true) (nd : X.N.Nodup) (ha : PE X a (den X.K Y ca)) (hb : PE X b (den X.K Y cb)) (hcc : PE X c (den X.K Y cd)) (hi : X.N[i]? = some x := by rfl) (hj : X.N[j]? = some y := by rfl) (hl : X.N[l]? = some z := by rfl)
    (hij : i ≠ j := by decide) (hil : i ≠ l := by decide) (hjl : j ≠ l := by decide) (hx : X.env.scope.names.lookup x = some .local := by rfl) (hy : X.env.scope.names.lookup y = some .local := by rfl) (hz : X.env.scope.names.lookup z = some .local := by rfl)
    (hw : swappedStores [.Tuple [.Name x px, .Name y py, .Name z pz] kt pt] (.Tuple [a, b, c] k2 pt2) X.env = pure (some [x, y, z]) := by rfl) (hs : swapsWithSole [.Tuple [.Name x px, .Name y py, .Name z pz] kt pt] (.Tuple [a, b, c] k2 pt2) pos.line X.env = pure false := by rfl)
    (h1 : starEach [a, b, c] X.env = (false, eval a X.env) :: starEach [b, c] X.env := by rfl) (h2 : starEach [b, c] X.env = (false, eval b X.env) :: starEach [c] X.env := by rfl) (h3 : starEach [c] X.env = (false, eval c X.env) :: starEach [] X.env := by rfl) :
    PS X (.Assign [.Tuple [.Name x px, .Name y py, .Name z pz] kt pt] (.Tuple [a, b, c] k2 pt2) pos) (denS X.K Y (par3 i j l ca cb cd)) := ps_imp (ps_par3 hc nd hi hj hl hij hil hjl hx hy hz (pa_cons ha (pa_cons hb (pa_cons hcc pa_nil h3) h2) h1) hw hs) fun _ _ _ => den_par3
/-! ### what is walked -/
theorem iu {tg : Expr} (h : PE X e (den X.K Y ce)) : PI X tg e (iU X.K (den X.K Y ce)) := pi_u h
theorem irng {tg : Expr} (hm : X.mg "range" = none) (h : PE X e (den X.K Y ce)) (hg : Gl X "range" := by rfl) (hs : starEach [e] X.env = [(false, eval e X.env)] := by rfl) : PI X tg (.Call (.Name "range" p) [e] [] pos) (iRng1 (tCons (den X.K Y ce) tNil)) := pi_range1 hg hm (pa_cons h pa_nil hs) hs
theorem sfor (i : Nat) {x : Str} {wi : TI} {cs : M (List PV)} {iter : Expr} (hc : X.calm = true) (nd : X.N.Nodup) (hp : PassesOwn (model X.prog X.w) X.A X.env X.xe) (hi : PI X (.Name x px) iter wi) (hw : SrcOk Y wi X.K cs) (hb : PSs X sa (denS X.K Y fa)) (hN : X.N[i]? = some x := by rfl)
    (hx : Loc X.env.scope x := by first | exact Or.inl rfl | exact Or.inr rfl) (hf : X.fn x = true ∨ X.env.scope.names.lookup x = some .local := by first | exact .inl rfl | exact .inr rfl | assumption) (hs : ∀ x, foldedSetIterable iter X.env x = pure x := by intro _; rfl) :
    PS X (.For (.Name x px) iter sa [] pos) (denS X.K Y (loopM cs i fa)) := ps_imp (ps_for hp hc hi (pg_name nd hN hx hf) hb hs) fun _ _ _ => den_for hw
/-! ### comprehensions -/
theorem tsN : PTs X [] (denT X.K Y (ret true)) := ⟨fun pins s σ H Q I h => pts_nil.run pins s σ H Q I (by
  obtain ⟨C, W, s, at', p⟩ := h
  exact p W H (Vw.Le.refl _) at')⟩
theorem olc (i : Nat) {x : Str} {elt iter : Expr} {ifs : List Expr} {scope : Scope} {own : List (Str × Nat)} {wi : TI} {cs : M (List PV)} (hc : X.calm = true) (nd : X.N.Nodup) (hi : PI X (.Name x px) iter wi) (hw : SrcOk Y wi X.K cs) (ok : BlkOk X.N X.env.scope scope own) (hio : i ∈ own.map (·.2))
    (hg : ∀ (s : Shared) (H : Hp) (C : Addr) (cl : List (Str × Addr)) (fp : List Addr), PG (X.blk s H scope (compEnvC scope cl C X.env) fp) (.Name x px) (gName i)) (ht : ∀ (s : Shared) (H : Hp) (C : Addr) (cl : List (Str × Addr)) (fp : List Addr), PTs (X.blk s H scope (compEnvC scope cl C X.env) fp) ifs (denT X.K yF tc))
    (he : ∀ (s : Shared) (H : Hp) (C : Addr) (cl : List (Str × Addr)) (fp : List Addr), PE (X.blk s H scope (compEnvC scope cl C X.env) fp) elt (den X.K yF ce)) (hs : ∀ x, foldedSetIterable iter X.env x = pure x := by intro _; rfl) :
    PE X (.ListComp elt [⟨.Name x px, iter, ifs, 0⟩] scope pos) (denO X.K Y (lcM cs i (own.map (·.2)) tc ce)) := pe_imp (pe_lc hc nd hi ok hg ht he hs) fun _ _ _ => den_lc hw hio
/-- the same, the value at once frozen -/
theorem slcV (l i : Nat) {y x : Str} {py : Pos} {elt iter : Expr} {ifs : List Expr} {scope : Scope} {own : List (Str × Nat)} {spos : Pos} {wi : TI} {cs : M (List PV)} (hc : X.calm = true) (nd : X.N.Nodup) (hi : PI X (.Name x px) iter wi) (hw : SrcOk Y wi X.K cs) (ok : BlkOk X.N X.env.scope scope own) (hio : i ∈ own.map (·.2))
    (hg : ∀ (s : Shared) (H : Hp) (C : Addr) (cl : List (Str × Addr)) (fp : List Addr), PG (X.blk s H scope (compEnvC scope cl C X.env) fp) (.Name x px) (gName i)) (ht : ∀ (s : Shared) (H : Hp) (C : Addr) (cl : List (Str × Addr)) (fp : List Addr), PTs (X.blk s H scope (compEnvC scope cl C X.env) fp) ifs (denT X.K yF tc))
    (he : ∀ (s : Shared) (H : Hp) (C : Addr) (cl : List (Str × Addr)) (fp : List Addr), PE (X.blk s H scope (compEnvC scope cl C X.env) fp) elt (den X.K yF ce)) (hy : X.N[l]? = some y := by rfl) (hyl : X.env.scope.names.lookup y = some .local := by rfl)
    (hsw : swapsWith (.ListComp elt [⟨.Name x px, iter, ifs, 0⟩] scope pos) (some (.Name y py)) spos.line X.env = pure true := by exact sw_true rfl rfl rfl (by kernel_rfl)) (hs : ∀ x, foldedSetIterable iter X.env x = pure x := by intro _; rfl) :
    PS X (.Assign [.Name y py] (.ListComp elt [⟨.Name x px, iter, ifs, 0⟩] scope pos) spos) (denS X.K Y (asgM l (lstM (lcM cs i (own.map (·.2)) tc ce)))) :=
  ps_imp (ps_setLc hc nd hy hyl hsw hi ok hg ht he hs) fun D σ H h => by
    obtain ⟨C, W, s, at', p⟩ := h
    refine (den_lc hw hio ⟨C, W, s, at', ?_⟩ : tLc wi (gName i) _ _ _ σ H (fun x H1 => gName l x σ H1 D.nx))
    refine (Pst.bnd (f := fun ds => ret (PV.lst ds)) (PstS.bnd p)).imp fun ds s1 W1 H1 l1 at1 p1 q vs hq rvs => ?_
    obtain ⟨W2, l2, at2, r2⟩ := at1.layL hq rvs
    exact (p1 W2 _ l2 at2) W2 _ _ (Vw.Le.refl _) (at2.set r2 l)
/-! ### methods of lists that a name owns -/
theorem xapp (i : Nat) {x : Str} {apos : Pos} (he : PE X e (den X.K Y ce)) (hN : X.N[i]? = some x := by rfl) (hv : Vis X.env.scope x := by first | exact Or.inl rfl | exact Or.inr (Or.inl rfl) | exact Or.inr (Or.inr rfl)) (hd : (x == ("__debug__" : Str)) = false := by decide) (hcd : (x == ("__classdict__" : Str)) = false := by decide)
    (hbase : attributeBase (.Name x px) "append" X.env (eval (.Name x px) X.env) = eval (.Name x px) X.env := by rfl)
    (hfew : ((backTo pos (starEach [e] X.env)).all (fun x => !x.1) && (backToKw pos (keywordEach [] X.env)).all (fun x => x.1.isSome) && decide ([e].length + ([] : List Keyword).length + (if ([] : List Keyword).isEmpty then 0 else 1) < 30)) = true := by rfl)
    (hline : (apos.endLine == pos.line) = true := by rfl) (hs : starEach [e] X.env = (false, eval e X.env) :: starEach [] X.env := by rfl) (hplain : (backTo pos (starEach [] X.env)).any (·.1) = false := by rfl) :
    PE X (.Call (.Attribute (.Name x px) "append" apos) [e] [] pos) (den X.K Y (appM i ce)) :=
  pe_imp (pe_bm PySem.F.plainAttrs_list PySem.F.slot_list_append PySem.F.type_list_append mt_append (pe_var hN hv hd hcd) (pa_cons he pa_nil hs) hbase hfew hline hs hplain) fun _ _ _ => den_app
/-! ### dict displays: handles -/
theorem kN : PPs X pos [] [] (trsOf X.K Y []) := pps_nil
theorem kC {x : Str} {j : Nat} {p2 : Pos} {v : Expr} {ks : List (Option Expr)} {vs : List Expr} {cv : M PV} {r : List (Str × M PV)} (hv : PE X v (den X.K Y cv)) (hr : PPs X pos ks vs (trsOf X.K Y r)) : PPs X pos (some (.Constant (.str x) j p2) :: ks) (v :: vs) (trsOf X.K Y ((x, cv) :: r)) := pps_cons pe_str hv hr
/-! ### calls -/
theorem xcall {m : Fn} {np : Nat} {cs : M (List PV)} {x : Str} {f : Addr} {fd : FuncData} {ps : List Str} (n : Nat) (F : FnG X.prog X.w X.K X.mg X.base (L2.CX X.prog X.w) k f fd ps (spM X.K np m)) (hl : ∀ n ds st, m n ds st ≠ .stk → ds.length = np) (hgd : X.A.guards = some []) (hr : Room k X.A) (tk : Takes X Y) (hm : X.mg x = some (.ref f)) (hk : PySem.W.keepIn X.K (.ref f) = true)
    (hb : Binds X.K fd ps []) (ha : PA X (e :: es) (denA X.K Y cs)) (hg : Gl X x := by rfl) (hdb : (x == ("__debug__" : Str)) = false := by decide) (he : starEach (e :: es) X.env = (false, eval e X.env) :: starEach es X.env := by rfl) (hpl : (backTo pos (starEach es X.env)).any (·.1) = false := by rfl) :
    PE X (.Call (.Name x p) (e :: es) [] pos) (den X.K Y (callM m n cs)) := pe_imp (pe_callG F hgd hr hg hm hk hb (fun σ => passAt tk σ) ha hdb he hpl) fun _ _ _ => den_call (hl n)
end
theorem takesF {X : Cx} : Takes X yF := fun _ _ x => by
  obtain ⟨_, _, _, _, _, _, _, _, _, _, _, _, _, _, _, _, w⟩ := x
  exact w.elim
theorem roomU {k : Nat} {A : Around} (h : Room k A) : A.units + 128 < cLine := by have := h.un; omega
/-- what a def of the text needs to be called -/
structure Df (P : Program) (w : World) (K : PySem.W.Frag) (mg : Str → Option Value) (base : Heap) (k : Nat) (x : Str) (ps : List Str) (m : Fn) : Prop where
  ex : ∃ (f : Addr) (fd : FuncData), FnG P w K mg base (L2.CX P w) k f fd ps (spM K ps.length m) ∧ mg x = some (.ref f) ∧ PySem.W.keepIn K (.ref f) = true ∧ Binds K fd ps []
  len : ∀ n ds st, m n ds st ≠ .stk → ds.length = ps.length
theorem xdef {Y : WX} {X : Cx} {k j : Nat} {x : Str} {ps : List Str} {m : Fn} {cs : M (List PV)} {e : Expr} {es : List Expr} {p pos : Pos} (n : Nat) (F : Df X.prog X.w X.K X.mg X.base j x ps m) (hgd : X.A.guards = some []) (hr : Room k X.A) (tk : Takes X Y) (hjk : j ≤ k) (ha : PA X (e :: es) (denA X.K Y cs)) (hg : Gl X x := by rfl)
    (hdb : (x == ("__debug__" : Str)) = false := by decide) (he : starEach (e :: es) X.env = (false, eval e X.env) :: starEach es X.env := by rfl) (hpl : (backTo pos (starEach es X.env)).any (·.1) = false := by rfl) :
    PE X (.Call (.Name x p) (e :: es) [] pos) (den X.K Y (callM m n cs)) := by
  obtain ⟨f, fd, G, hm, hk, hb⟩ := F.ex
  exact xcall n G F.len hgd (hr.mono hjk) tk hm hk hb ha hg hdb he hpl
end Dn
/-! Den9: the law's end. -/
namespace Dn
open PySem L2 PySem.Spec PyProof.Rows
theorem xdisp {X : Cx} {keys : List (Option Expr)} {values : List Expr} {pos : Pos} {kcs : List (Str × M PV)} (h : PPs X pos keys values (trsOf X.K Y kcs)) (hall : keys.all (·.isSome) = true := by rfl) (hl : keys.length = values.length := by rfl) (h0 : keys ≠ [] := by exact fun z => by cases z) (h15 : keys.length ≤ 15 := by decide) :
    PE X (.Dict keys values pos) (den X.K Y (dispM kcs)) := pe_imp (pe_disp h hall hl h0 h15) fun _ _ _ => den_disp
/-! ### a, b = e -/
def gNs : List Nat → TGs
  | [] => gNil
  | i :: r => gCons (gName i) (gNs r)
def setAll : List Nat → List PV → M Fl
  | [], [] => ret .nx
  | i :: is, d :: ds => bnd (setV i d) fun _ => setAll is ds
  | _, _ => stuck
def unpM (is : List Nat) (c : M PV) : M Fl := bnd c fun d => match d with
  | .tup xs => if xs.length = is.length then setAll is xs else stuck
  | _ => stuck
theorem den_setAll {K : PySem.W.Frag} : ∀ (is : List Nat) (ds : List PV) {C : Ctx} {W : Vw} {s : S} {σ : L2.St} {H : Hp} {D : Ends} {vs : List V}, At K C W s σ H → Reps K W vs ds → PstS K C W D (setAll is ds s) → gNs is vs σ H D.nx
  | [], [], C, W, s, σ, H, D, vs, a, r, p => by
    cases r
    exact ⟨rfl, p W σ H (Vw.Le.refl _) a⟩
  | i :: is, d :: ds, C, W, s, σ, H, D, vs, a, r, p => by
    cases r with
    | cons r rs => exact ⟨_, _, rfl, den_setAll is ds (a.set r i) rs p⟩
  | [], _ :: _, _, _, _, _, _, _, _, _, _, p => p.elim
  | _ :: _, [], _, _, _, _, _, _, _, _, _, p => p.elim
theorem den_unp {K : PySem.W.Frag} {is : List Nat} {ca : M PV} {D : Ends} {σ : L2.St} {H : Hp} (h : denS K Y (unpM is ca) D σ H) : tAsg (den K Y ca) (gTup K is.length (gNs is)) D σ H := by
  obtain ⟨C, W, s, at', p⟩ := h
  refine ⟨C, W, s, at', (PstS.bnd p).imp fun d s1 W1 H1 l1 at1 p1 v rv => ?_⟩
  cases d <;> try exact p1.elim
  rename_i xs
  cases rv with
  | tup hq rs =>
    have p2 : PstS K (C.wi Y) W1 D ((if xs.length = is.length then setAll is xs else stuck) s1) := p1
    by_cases hl : xs.length = is.length
    · rw [if_pos hl] at p2
      exact ⟨_, _, rfl, same_t at1.ok.sub hq, by rw [rs.length]; exact hl, den_setAll _ _ at1 rs p2⟩
    · rw [if_neg hl] at p2
      exact p2.elim
theorem gn {X : Cx} (i : Nat) {x : Str} {px : Pos} (nd : X.N.Nodup) (hN : X.N[i]? = some x := by rfl) (hx : Loc X.env.scope x := by first | exact Or.inl rfl | exact Or.inr rfl) (hf : X.fn x = true ∨ X.env.scope.names.lookup x = some .local := by first | exact .inl rfl | exact .inr rfl | assumption) : PG X (.Name x px) (gName i) := pg_name nd hN hx hf
theorem sunp {X : Cx} (is : List Nat) {ca : M PV} {e : Expr} {es : List Expr} {pos pt : Pos} {kt : Nat} (hc : X.calm = true) (he : PE X e (den X.K Y ca)) (hg : PGs X es (gNs is)) (hn : (assignEach es X.env).length = is.length := by rfl) (hst : (assignEach es X.env).findIdx? (·.1) = none := by rfl)
    (hs : swapsWithSole [.Tuple es kt pt] e pos.line X.env = pure false := by rfl) (hw : swappedStores [.Tuple es kt pt] e X.env = pure none := by rfl) (h1 : (assignEach [.Tuple es kt pt] X.env).map (·.2) = [assign (.Tuple es kt pt) X.env] := by rfl) :
    PS X (.Assign [.Tuple es kt pt] e pos) (denS X.K Y (unpM is ca)) := ps_imp (ps_asg he (pg_tup hc hg hn hst) hs hw h1) fun _ _ _ => den_unp
/-! ### -e -/
/-- the script's place: known to the object, or one of the module's own -/
def scrH (K : PySem.W.Frag) (a : Addr) (ob : Obj) (ns : List Int) : Hp := fun b => if b = a ∧ K.lookup a = none then some (.frz ob (.lst (ns.map V.int))) else none
end Dn
/-! Ob1: instances: made as two handles (the object, its dict), frozen when they are done. -/
namespace Dn
open PySem L2 PySem.Spec PyProof.Rows
section
variable {Y : WX} {K : PySem.W.Frag} {C : Ctx} {W W' : Vw} {σ : L2.St} {H : Hp} {s : S} {x dx Cc : Addr} {c : Str} {Q : VK}
theorem two_left {α : Type} {l : List α} {a b : α} {n : Nat} (h : n < l.length) : (l ++ [a, b])[n]? = l[n]? := List.getElem?_append_left h
theorem two_0 {α : Type} {l : List α} {a b : α} : (l ++ [a, b])[l.length]? = some a := by
  rw [List.getElem?_append_right (Nat.le_refl _), Nat.sub_self]
  rfl
theorem two_1 {α : Type} {l : List α} {a b : α} : (l ++ [a, b])[l.length + 1]? = some b := by
  rw [List.getElem?_append_right (Nat.le_succ _), show l.length + 1 - l.length = 1 by omega]
  rfl
theorem two_cases {α : Type} {l : List α} {a b z : α} {n : Nat} (h : (l ++ [a, b])[n]? = some z) : (n < l.length ∧ l[n]? = some z) ∨ (n = l.length ∧ z = a) ∨ (n = l.length + 1 ∧ z = b) := by
  have hlt := (List.getElem?_eq_some_iff.mp h).1
  rw [List.length_append] at hlt
  have hlt : n < l.length + 2 := hlt
  by_cases h1 : n < l.length
  · rw [two_left h1] at h
    exact .inl ⟨h1, h⟩
  · by_cases h2 : n = l.length
    · subst h2
      rw [two_0] at h
      exact .inr (.inl ⟨rfl, (Option.some.inj h).symm⟩)
    · have h3 : n = l.length + 1 := by omega
      subst h3
      rw [two_1] at h
      exact .inr (.inr ⟨rfl, (Option.some.inj h).symm⟩)
/-- a new instance and its dict: two handles -/
theorem At.newI (h : At K C W s σ H) (hx : H x = none) (hd : H dx = none) (ne : dx ≠ x) (hc : ClsAt K c Cc) :
    W.Le ⟨W.F, W.hs ++ [x, dx]⟩ ∧ At K C ⟨W.F, W.hs ++ [x, dx]⟩ { s with sto := s.sto ++ [.ins c [] [], .own s.sto.length] } σ (upd (upd H dx (.own x)) x (.ins Cc dx [])) ∧ Rep K ⟨W.F, W.hs ++ [x, dx]⟩ (.ref x) (.hnd s.sto.length) := by
  obtain ⟨f1, f2, f3⟩ := h.fresh hx
  obtain ⟨g1, g2, g3⟩ := h.fresh hd
  have len := h.ok.len
  have le : W.Le ⟨W.F, W.hs ++ [x, dx]⟩ := ⟨Same.refl _, fun n a e => by
    show (W.hs ++ [x, dx])[n]? = _
    rw [two_left (List.getElem?_eq_some_iff.mp e).1]
    exact e⟩
  have h0 : (W.hs ++ [x, dx])[s.sto.length]? = some x := by rw [len]; exact two_0
  have h1 : (W.hs ++ [x, dx])[s.sto.length + 1]? = some dx := by rw [len]; exact two_1
  have eo : ∀ {b : Addr}, b ≠ x → b ≠ dx → upd (upd H dx (.own x)) x (.ins Cc dx []) b = H b := fun {b} n1 n2 => by rw [upd_ne n1, upd_ne n2]
  refine ⟨le, ⟨⟨fun b u e => ?_, fun n b e => ?_, ?_, ?_⟩, fun b u e hb => ?_, fun n b e => le.pre n b (h.pre n b e), fun b hb => ?_, h.len, fun j e he => ?_, fun j ys e => ?_, h.dst⟩, .hnd h0⟩
  · rw [eo (fun z => by rw [z, f1] at e; cases e) (fun z => by rw [z, g1] at e; cases e)]
    exact h.ok.sub b u e
  · have e : (W.hs ++ [x, dx])[n]? = some b := e
    rcases two_cases e with ⟨hn, e⟩ | ⟨hn, rfl⟩ | ⟨hn, rfl⟩
    · have nb : b ≠ x ∧ b ≠ dx := ⟨fun z => f2 (z ▸ List.mem_of_getElem? e), fun z => g2 (z ▸ List.mem_of_getElem? e)⟩
      refine (h.ok.hnd n b e).map rfl ?_ fun mo r => (r.at (eo nb.1 nb.2)).mono le
      show (s.sto ++ _)[n]? = _
      rw [two_left (by rw [len]; exact hn)]
    · refine .inl ⟨f1, .ins c [] [], ?_, .ins (n := s.sto.length) (us := []) hc ?_ h0 h1 rfl .nil⟩
      · show (s.sto ++ [_, _])[n]? = _
        rw [hn, ← len]
        exact two_0
      · exact upd_same
    · refine .inl ⟨g1, .own s.sto.length, ?_, .own h0 ?_⟩
      · show (s.sto ++ [_, _])[n]? = _
        rw [hn, ← len]
        exact two_1
      · rw [upd_ne ne, upd_same]
  · show (W.hs ++ [x, dx]).Nodup
    rw [List.nodup_append]
    refine ⟨h.ok.nd, by simp [ne.symm], fun a ha b hb z => ?_⟩
    subst z
    simp only [List.mem_cons, List.not_mem_nil, or_false] at hb
    rcases hb with rfl | rfl
    · exact f2 ha
    · exact g2 ha
  · show (s.sto ++ _).length = (W.hs ++ _).length
    rw [List.length_append, List.length_append, len]
    rfl
  · rw [eo (fun z => by rw [z, f3] at e; cases e) (fun z => by rw [z, g3] at e; cases e)]
    exact h.keep b u e hb
  · obtain ⟨k1, k2⟩ := h.gro b hb
    refine ⟨k1, fun hm => ?_⟩
    rcases List.mem_append.mp hm with hm | hm
    · exact k2 hm
    · simp only [List.mem_cons, List.not_mem_nil, or_false] at hm
      rcases hm with rfl | rfl
      · exact absurd f3 hb
      · exact absurd g3 hb
  · obtain ⟨v, e1, r⟩ := h.val j e he
    exact ⟨v, e1, r.mono le⟩
  · obtain ⟨b, ws, e1, ow, e2, r2⟩ := h.own j ys e
    have n1 : b ≠ x := ne_of_none e2 hx
    have n2 : b ≠ dx := ne_of_none e2 hd
    refine ⟨b, ws, e1, ⟨ow.f, fun hm => ?_, ow.g⟩, by rw [eo n1 n2]; exact e2, r2.mono le⟩
    rcases List.mem_append.mp hm with hm | hm
    · exact ow.h hm
    · simp only [List.mem_cons, List.not_mem_nil, or_false] at hm
      rcases hm with rfl | rfl
      · exact n1 rfl
      · exact n2 rfl
/-- a handle of this body's making is nothing of the callers' -/
theorem At.mine {n : Nat} {a : Addr} (h : At K C W s σ H) (hn : C.hs0.length ≤ n) (e : W.hs[n]? = some a) : C.G a = none ∧ a ∉ C.hs0 := by
  have no : a ∉ C.hs0 := fun hm => by
    obtain ⟨m, hm⟩ := List.getElem?_of_mem hm
    have e2 := h.pre m a hm
    obtain ⟨l1, y1⟩ := List.getElem?_eq_some_iff.mp e
    obtain ⟨l2, y2⟩ := List.getElem?_eq_some_iff.mp e2
    have : n = m := (List.getElem_inj h.ok.nd).mp (y1.trans y2.symm)
    have := (List.getElem?_eq_some_iff.mp hm).1
    omega
  refine ⟨?_, no⟩
  cases z : C.G a with
  | none => rfl
  | some o => exact absurd ((h.gro a (by rw [z]; exact fun q => nomatch q)).2 (List.mem_of_getElem? e)) no
/-- the instance at the handle k is done: it is a value from now on -/
theorem At.done {k : Nat} {ks : List Str} {vs : List PV} (h : At K C W s σ H) (hk : C.hs0.length ≤ k) (hx : W.hs[k]? = some x) (e1 : s.sto[k]? = some (.ins c ks vs)) (e2 : s.sto[k + 1]? = some (.own k)) :
    ∃ W', W.Le W' ∧ At K C W' { s with sto := (s.sto.set k .gone).set (k + 1) .gone } σ H ∧ Rep K W' (.ref x) (.obj c ks vs) := by
  obtain ⟨fx, mx⟩ := h.ok.live hx e1 (fun z => nomatch z)
  cases mx with
  | @ins Cc dx n _ _ us _ hc hH hn hn1 hl ru =>
  have ix : ∀ {m m' : Nat} {a : Addr}, W.hs[m]? = some a → W.hs[m']? = some a → m = m' := fun {m m' a} p q => by
    obtain ⟨l1, y1⟩ := List.getElem?_eq_some_iff.mp p
    obtain ⟨l2, y2⟩ := List.getElem?_eq_some_iff.mp q
    exact (List.getElem_inj h.ok.nd).mp (y1.trans y2.symm)
  have hnk : n = k := ix hn hx
  subst hnk
  obtain ⟨fd, md⟩ := h.ok.live hn1 e2 (fun z => nomatch z)
  cases md with
  | @own m x' hm hHd =>
  rw [hx] at hm
  cases hm
  have ne : dx ≠ x := fun z => by
    have := ix hn1 (z ▸ hx)
    omega
  obtain ⟨gx, nx⟩ := h.mine hk hx
  obtain ⟨gd, nd⟩ := h.mine (Nat.le_succ_of_le hk) hn1
  let F' : Hp := upd (upd W.F x (.ins Cc dx (ks.zip us))) dx (.own x)
  have eF : ∀ {b : Addr}, b ≠ x → b ≠ dx → F' b = W.F b := fun {b} n1 n2 => by
    show upd (upd W.F x _) dx _ b = _
    rw [upd_ne n2, upd_ne n1]
  have Fx : F' x = some (.ins Cc dx (ks.zip us)) := by
    show upd (upd W.F x _) dx _ x = _
    rw [upd_ne ne.symm, upd_same]
  have Fd : F' dx = some (.own x) := upd_same
  have le : W.Le ⟨F', W.hs⟩ := ⟨fun b u e => (eF (fun z => by rw [z, fx] at e; cases e) (fun z => by rw [z, fd] at e; cases e)).trans e, fun _ _ e => e⟩
  have l1 : n < s.sto.length := (List.getElem?_eq_some_iff.mp e1).1
  have l2 : n + 1 < s.sto.length := (List.getElem?_eq_some_iff.mp e2).1
  refine ⟨⟨F', W.hs⟩, le, ⟨⟨fun b u e => ?_, fun m b e => ?_, h.ok.nd, ?_⟩, h.keep, h.pre, fun b hb => ?_, h.len, fun j e he => ?_, fun j ys e => ?_, h.dst⟩, .obj hc Fx Fd hl (ru.mono le)⟩
  · have e : F' b = some u := e
    by_cases hb : b = x
    · subst hb
      rw [Fx] at e
      rw [hH]
      exact e
    · by_cases hb2 : b = dx
      · subst hb2
        rw [Fd] at e
        rw [hHd]
        exact e
      · rw [eF hb hb2] at e
        exact h.ok.sub b u e
  · by_cases hm : m = n
    · subst hm
      have hbx : b = x := by
        have e : W.hs[m]? = some b := e
        rw [hx] at e
        exact (Option.some.inj e).symm
      subst hbx
      refine .inr ⟨by (show F' b ≠ none; rw [Fx]; exact fun z => nomatch z), ?_⟩
      show ((s.sto.set m .gone).set (m + 1) .gone)[m]? = _
      rw [List.getElem?_set_ne (by omega), List.getElem?_set_self l1]
    · by_cases hm2 : m = n + 1
      · subst hm2
        have hbd : b = dx := by
          have e : W.hs[n + 1]? = some b := e
          rw [hn1] at e
          exact (Option.some.inj e).symm
        subst hbd
        refine .inr ⟨by (show F' b ≠ none; rw [Fd]; exact fun z => nomatch z), ?_⟩
        show ((s.sto.set n .gone).set (n + 1) .gone)[n + 1]? = _
        rw [List.getElem?_set_self (by rw [List.length_set]; exact l2)]
      · have n1 : b ≠ x := fun z => hm (ix e (z ▸ hx))
        have n2 : b ≠ dx := fun z => hm2 (ix e (z ▸ hn1))
        refine (h.ok.hnd m b e).map (eF n1 n2) ?_ fun mo r => r.mono le
        show ((s.sto.set n .gone).set (n + 1) .gone)[m]? = _
        rw [List.getElem?_set_ne (fun z => hm2 z.symm), List.getElem?_set_ne (fun z => hm z.symm)]
  · show ((s.sto.set n .gone).set (n + 1) .gone).length = _
    rw [List.length_set, List.length_set]
    exact h.ok.len
  · obtain ⟨k1, k2⟩ := h.gro b hb
    exact ⟨(eF (fun z => hb (by rw [z]; exact gx)) (fun z => hb (by rw [z]; exact gd))).trans k1, k2⟩
  · obtain ⟨v, q1, r⟩ := h.val j e he
    exact ⟨v, q1, r.mono le⟩
  · obtain ⟨b, ws, q1, ow, q2, r2⟩ := h.own j ys e
    have n1 : b ≠ x := fun z => ow.h (z ▸ List.mem_of_getElem? hx)
    have n2 : b ≠ dx := fun z => ow.h (z ▸ List.mem_of_getElem? hn1)
    exact ⟨b, ws, q1, ⟨(eF n1 n2).trans ow.f, ow.h, ow.g⟩, q2, r2.mono le⟩
end
end Dn
/-! Ob2: attributes of instances, read and stored. -/
namespace Dn
open PySem L2 PySem.Spec PyProof.Rows
def putKV (f : Str) (v : PV) : List Str → List PV → List Str × List PV
  | k :: ks, w :: vs => if k = f then (k :: ks, v :: vs) else let r := putKV f v ks vs; (k :: r.1, w :: r.2)
  | _, _ => ([f], [v])
section
variable {Y : WX} {K : PySem.W.Frag} {C : Ctx} {W W' : Vw} {σ : L2.St} {H : Hp} {s : S} {Q : VK} {ca cv : M PV} {D : Ends} {f : Str} {ks : List Str} {us : List V} {vs : List PV} {d : PV} {y : V}
theorem zip_look : ∀ {ks : List Str} {us : List V} {vs : List PV} {d : PV}, Reps K W us vs → (ks.zip vs).lookup f = some d → ∃ v, (ks.zip us).lookup f = some v ∧ Rep K W v d
  | [], _, _, _, _, h => by cases h
  | k :: ks, _, _, _, .nil, h => by cases h
  | k :: ks, u :: us, v :: vs, d, .cons r rs, h => by
    rw [List.zip_cons_cons, List.lookup] at h ⊢
    cases e : f == k with
    | true =>
      rw [e] at h
      cases h
      exact ⟨u, rfl, r⟩
    | false =>
      rw [e] at h
      exact zip_look rs h
theorem zip_none : ∀ {ks : List Str} {us : List V} {vs : List PV}, Reps K W us vs → ks.length = vs.length → (ks.zip vs).lookup f = none → (ks.zip us).lookup f = none
  | [], _, _, _, _, _ => rfl
  | k :: ks, _, _, .nil, l, _ => by cases l
  | k :: ks, u :: us, v :: vs, .cons r rs, l, h => by
    rw [List.zip_cons_cons, List.lookup] at h ⊢
    cases e : f == k with
    | true => rw [e] at h; cases h
    | false =>
      rw [e] at h
      exact zip_none rs (by simpa using l) h
theorem zip_put (ry : Rep K W y d) : ∀ {ks : List Str} {us : List V} {vs : List PV}, Reps K W us vs → ks.length = vs.length → ∃ us', putF f y (ks.zip us) = (putKV f d ks vs).1.zip us' ∧ Reps K W us' (putKV f d ks vs).2 ∧ (putKV f d ks vs).1.length = (putKV f d ks vs).2.length
  | [], us, [], r, _ => by
    cases r
    exact ⟨[y], rfl, .cons ry .nil, rfl⟩
  | [], _, _ :: _, _, l => by cases l
  | k :: ks, _, _, .nil, l => by cases l
  | k :: ks, u :: us, v :: vs, .cons r rs, l => by
    have l' : ks.length = vs.length := by simpa using l
    show ∃ us', putF f y ((k, u) :: ks.zip us) = _ ∧ _
    unfold putF putKV
    by_cases h : k = f
    · rw [if_pos h, if_pos h]
      exact ⟨y :: us, rfl, .cons ry rs, by simpa using l'⟩
    · rw [if_neg h, if_neg h]
      obtain ⟨us', e1, e2, e3⟩ := zip_put ry rs l'
      exact ⟨u :: us', by rw [e1]; rfl, .cons r e2, by simpa using e3⟩
/-- an instance where it stands: a value, or a handle -/
def insOf (s : S) : PV → Option (Str × List Str × List PV)
  | .obj c ks vs => some (c, ks, vs)
  | .hnd n => match s.sto[n]? with
    | some (.ins c ks vs) => some (c, ks, vs)
    | _ => none
  | _ => none
theorem insOf_rep {x : V} {c : Str} (h : At K C W s σ H) (r : Rep K W x d) (e : insOf s d = some (c, ks, vs)) : ∃ a Cc dx us, x = .ref a ∧ ClsAt K c Cc ∧ H a = some (.ins Cc dx (ks.zip us)) ∧ ks.length = vs.length ∧ Reps K W us vs := by
  cases r <;> try (have e : (none : Option (Str × List Str × List PV)) = some (c, ks, vs) := e; cases e)
  · rename_i a n hn
    unfold insOf at e
    dsimp only at e
    split at e
    · rename_i hs
      cases e
      cases (h.ok.live hn hs (fun z => nomatch z)).2 with
      | ins hc hH _ _ l ru => exact ⟨a, _, _, _, rfl, hc, hH, l, ru⟩
    · cases e
  · rename_i hc hF hd l ru
    cases e
    exact ⟨_, _, _, _, rfl, hc, h.ok.sub _ _ hF, l, ru⟩
theorem cls_uniq {c : Str} {C1 C2 : Addr} (h1 : ClsAt K c C1) (h2 : ClsAt K c C2) : C1 = C2 := by
  have h1 : PySem.W.nsIn K mainGlobals c = some (some (.ref C1)) := h1
  have h2 : PySem.W.nsIn K mainGlobals c = some (some (.ref C2)) := h2
  rw [h1] at h2
  cases h2
  rfl
/-- the classes of these names have no attribute f of their own -/
def FldOk (K : PySem.W.Frag) (f : Str) (cs : List Str) : Prop := ∀ c ∈ cs, ∃ Cc, ClsAt K c Cc ∧ Cls K Cc ∧ NoAttr K Cc f
/-- e.f -/
def fldM (cs : List Str) (f : Str) (d : PV) : M PV := fun s => match insOf s d with
  | some (c, ks, vs) => if c ∈ cs then (match (ks.zip vs).lookup f with
    | some v => .ok v s
    | none => .stk) else .stk
  | none => .stk
theorem den_fld {cs : List Str} (F : FldOk K f cs) (h : den K Y (bnd ca (fldM cs f)) σ H Q) : tFld K (den K Y ca) f σ H Q := by
  obtain ⟨C, W, s, at', p⟩ := h
  refine ⟨C, W, s, at', (Pst.bnd p).imp fun d s1 W1 H1 l1 at1 p1 x rx => ?_⟩
  unfold fldM at p1
  split at p1
  · rename_i c ks vs e
    split at p1
    · rename_i hc
      split at p1
      · rename_i v hv
        obtain ⟨a, Cc, dx, us, rfl, h1, h2, l, ru⟩ := insOf_rep at1 rx e
        obtain ⟨C2, k1, k2, k3⟩ := F c hc
        cases cls_uniq h1 k1
        obtain ⟨v', e2, r2⟩ := zip_look ru hv
        exact ⟨a, Cc, dx, _, v', rfl, h2, k2, k3, e2, p1 W1 H1 (Vw.Le.refl _) at1 _ r2⟩
      · exact p1.elim
    · exact p1.elim
  · exact p1.elim
/-- e.f = v, e a handle -/
def fputM (cs : List Str) (f : Str) (cd cv : M PV) : M Fl := bnd cv fun v => bnd cd fun d => fun s => match d with
  | .hnd n => match s.sto[n]? with
    | some (.ins c ks vs) => if c ∈ cs ∧ ks.length < 1000 then .ok .nx { s with sto := s.sto.set n (.ins c (putKV f v ks vs).1 (putKV f v ks vs).2) } else .stk
    | _ => .stk
  | _ => .stk
theorem den_fput {cs : List Str} {cd : M PV} (F : FldOk K f cs) (h : denS K Y (fputM cs f cd cv) D σ H) : sFld K (den K Y cd) (den K Y cv) f D σ H := by
  obtain ⟨C, W, s, at', p⟩ := h
  refine ⟨C, W, s, at', (PstS.bnd p).imp fun v s1 W1 H1 l1 at1 p1 y ry => ⟨C, W1, s1, at1, (PstS.bnd p1).imp fun d s2 W2 H2 l2 at2 p2 x rx => ?_⟩⟩
  split at p2
  · rename_i n
    split at p2
    · rename_i c ks vs hs
      split at p2
      · rename_i hc
        cases rx with
        | @hnd a _ hn =>
        obtain ⟨fa, mr⟩ := at2.ok.live hn hs (fun z => nomatch z)
        cases mr with
        | @ins Cc dx m _ _ us _ hC hH hm hm1 hl ru =>
        obtain ⟨C2, k1, k2, k3⟩ := F c hc.1
        cases cls_uniq hC k1
        obtain ⟨us', e1, e2, e3⟩ := zip_put (f := f) (ry.mono l2) ru hl
        refine ⟨a, Cc, dx, _, rfl, hH, k2, k3, ?_, ?_⟩
        · rw [List.length_zip, ru.length, ← hl, Nat.min_self]
          exact hc.2
        · rw [e1]
          exact p2 W2 _ _ (Vw.Le.refl _) (at2.putG hn hs (fun z => nomatch z) (.ins hC upd_same hm hm1 e3 e2))
      · exact p2.elim
    · exact p2.elim
  · exact p2.elim
/-- a constant of the class, an int -/
def ConOk (K : PySem.W.Frag) (f : Str) (i : Int) (cs : List Str) : Prop := ∀ c ∈ cs, ∃ Cc u, ClsAt K c Cc ∧ Cls K Cc ∧ Con K Cc f (.int i) u
def conM (cs : List Str) (f : Str) (i : Int) (d : PV) : M PV := fun s => match insOf s d with
  | some (c, ks, vs) => if c ∈ cs ∧ (ks.zip vs).lookup f = none then .ok (.int i) s else .stk
  | none => .stk
theorem den_con {cs : List Str} {i : Int} (F : ConOk K f i cs) (h : den K Y (bnd ca (conM cs f i)) σ H Q) : tCon K (den K Y ca) f σ H Q := by
  obtain ⟨C, W, s, at', p⟩ := h
  refine ⟨C, W, s, at', (Pst.bnd p).imp fun d s1 W1 H1 l1 at1 p1 x rx => ?_⟩
  unfold conM at p1
  split at p1
  · rename_i c ks vs e
    split at p1
    · rename_i hc
      obtain ⟨a, Cc, dx, us, rfl, h1, h2, l, ru⟩ := insOf_rep at1 rx e
      obtain ⟨C2, u, k1, k2, k3⟩ := F c hc.1
      cases cls_uniq h1 k1
      exact ⟨a, Cc, dx, _, _, u, rfl, h2, k2, k3, zip_none ru l hc.2, p1 W1 H1 (Vw.Le.refl _) at1 _ (.int i)⟩
    · exact p1.elim
  · exact p1.elim
end
section
variable {Y : WX} {X : Cx} {e o v : Expr} {f : Str} {pos p2 : Pos} {ce co cv : M PV}
theorem xfld {cs : List Str} (F : FldOk X.K f cs) (he : PE X e (den X.K Y ce)) (hb : attributeBase e f X.env (eval e X.env) = eval e X.env := by rfl) : PE X (.Attribute e f pos) (den X.K Y (bnd ce (fldM cs f))) := pe_imp (pe_fld he hb) fun _ _ _ => den_fld F
theorem xcon {cs : List Str} {i : Int} (F : ConOk X.K f i cs) (he : PE X e (den X.K Y ce)) (hb : attributeBase e f X.env (eval e X.env) = eval e X.env := by rfl) : PE X (.Attribute e f pos) (den X.K Y (bnd ce (conM cs f i))) := pe_imp (pe_con he hb) fun _ _ _ => den_con F
theorem sfput {cs : List Str} (F : FldOk X.K f cs) (ho : PE X o (den X.K Y co)) (hv : PE X v (den X.K Y cv)) (hs : swapsWith v (some (.Attribute o f p2)) pos.line X.env = pure false := by rfl) : PS X (.Assign [.Attribute o f p2] v pos) (denS X.K Y (fputM cs f co cv)) := ps_imp (ps_fld ho hv hs) fun _ _ _ => den_fput F
end
end Dn
/-! Ob3: calls with keywords, methods, properties, classes called. -/
namespace Dn
open PySem L2 PySem.Spec PyProof.Rows
/-! ### a call's arguments, stars among them -/
section
open PySem.W PySem.Calls
variable {M : Model} {A : Around} {E : Value → Shared → Prop} {s : Shared}
theorem callWith_any {f : Value} {first : List Value} {pos : Pos} {Q : Value → Shared → Prop} {P : Heap → Prop} {args : List (Bool × Sem Value)} {kws : List (Option Str × Sem Value)}
    (hk : ∀ h, P h → ∃ k, (k = Keeper.frame ∨ k = Keeper.machine ∨ k = Keeper.boundFrame) ∧ Looks M h (keeperOf f) k)
    (h : wpAny M A (evalArgs f true args kws) (fun a s₁ => P s₁.heap ∧ wpAny M A (call f (first ++ a.pos) a.kw) Q E s₁) E s) : wpAny M A (callWith pos f first args kws) Q E s := by
  unfold callWith
  refine wpAny_bind (wpAny_holding (wpAny_mono h (fun a s₁ h₁ => ?_) fun _ _ x => x))
  refine wpAny_bind (wpAny_standAt ?_)
  obtain ⟨k, hk', L⟩ := hk _ h₁.1
  have ends : ∀ {t : Sem Value}, wpAny M A t Q E s₁ → wpAny M A (t >>= fun r => holding [r] point >>= fun _ => pure r) Q E s₁ := fun ht => by
    refine wpAny_bind (wpAny_mono ht (fun r s₂ hr => ?_) fun _ _ x => x)
    exact wpAny_bind (wpAny_holding (wpAny_point (wpAny_pure hr)))
  have mk : ∀ v : Value, wpAny M A (callMarked v f (first ++ a.pos) a.kw) Q E s₁ := fun v => by
    unfold callMarked
    exact Calls.wpAny_keep h₁.2
  generalize (args.any (·.1) || kws.any (·.1.isNone)) = star
  refine wpAny_bind (L.here ?_)
  cases star <;> rcases hk' with rfl | rfl | rfl <;> dsimp only <;> first | exact ends h₁.2 | exact ends (mk _) | exact ends (wpAny_operating h₁.2) | (split <;> first | exact ends h₁.2 | exact ends (mk _))
theorem callWith_KA {K : Frag} {env : PySem.Env} {pos : Pos} {f : Value} {first : List Value} {Q : Value → Shared → Prop} {e : Expr} {rest : List Expr} {kws : List Keyword} (hk : keepIn K f = true) (hall : (backToKw pos (keywordEach kws env)).all (·.1.isSome) = true)
    (h : wpAny M A (spliced (backTo pos (starEach (e :: rest) env))) (fun vs s₁ => wpAny M A (evalAll ((backToKw pos (keywordEach kws env)).map (·.2)))
      (fun ks s₂ => K.In s₂.heap ∧ wpAny M A (call f (first ++ vs) (((backToKw pos (keywordEach kws env)).filterMap (·.1)).zip ks)) Q E s₂) E s₁) E s)
    (he : starEach (e :: rest) env = (false, eval e env) :: starEach rest env) : wpAny M A (callWith pos f first (backTo pos (starEach (e :: rest) env)) (backToKw pos (keywordEach kws env))) Q E s :=
  callWith_any (keeps_K hk) (PyProof.Rows.evalArgs_kw2 hall h he)
end
/-- the def runs -/
def runM (m : Fn) (n : Nat) (ds : List PV) : M PV := fun s => match m n ds s.sto with
  | .ok d st' => .ok d { s with sto := st' }
  | .exc e st' => .exc e { s with sto := st' }
  | .stk => .stk
/-- positional values, then the keywords' -/
def appA (i j : Nat) (ca cb : M (List PV)) : M (List PV) := bnd ca fun a => bnd cb fun b => if a.length = i ∧ b.length = j then ret (a ++ b) else stuck
/-- what a call of that form binds -/
abbrev KB (K : PySem.W.Frag) (fd : FuncData) (ps : List Str) (n : Nat) (ks : List Str) : Prop := KBn K fd ps n ks (fun us ws => us ++ ws) (fun us ws => us ++ ws)
/-- a def and how it is called -/
structure Ent (P : Program) (w : World) (K : PySem.W.Frag) (mg : Str → Option Value) (base : Heap) (k : Nat) (g : Addr) (np n : Nat) (ks : List Str) (m : Fn) : Prop where
  ex : ∃ fd ps, ps.length = np ∧ FnG P w K mg base (L2.CX P w) k g fd ps (spM K np m) ∧ KB K fd ps n ks
  len : ∀ n ds st, m n ds st ≠ .stk → ds.length = np
section
variable {Y : WX} {K : PySem.W.Frag} {C : Ctx} {W W' : Vw} {σ : L2.St} {H : Hp} {s : S} {Q : VK} {np n i j : Nat} {m : Fn} {ca cb : M (List PV)} {ds : List PV} {vs : List V}
theorem sp_run (hl : ∀ n ds st, m n ds st ≠ .stk → ds.length = np) (a : At K (C.wi Y) W s σ H) (r : Reps K W vs ds) (p : Pst K (C.wi Y) W σ (runM m n ds s) (fun d _ W' H' => ∀ v, Rep K W' v d → Q v H')) : spM K np m vs H Q (WE Y σ) := by
  unfold runM at p
  have len : ∀ {x : RR}, m n ds s.sto = x → x ≠ .stk → vs.length = np := fun {x} e z => by rw [r.length]; exact hl _ _ _ (by rw [e]; exact z)
  cases e : m n ds s.sto with
  | exc x st' =>
    simp only [e] at p
    refine ⟨len e (fun z => nomatch z), n, W, s.sto, ds, a.ok, r, ?_⟩
    rw [e]
    exact fun W' H' cls d l ok g r => p W' σ H' cls d l (a.call l ok g) r
  | stk => simp only [e] at p; exact p.elim
  | ok d st' =>
    simp only [e] at p
    refine ⟨len e (fun z => nomatch z), n, W, s.sto, ds, a.ok, r, ?_⟩
    rw [e]
    exact fun v W' H' l ok g r => p W' H' l (a.call l ok g) v r
/-- both parts of the arguments -/
theorem den_appA {α : Type} {f : List PV → M α} {P : α → S → Vw → Hp → Prop} {QL : List V → List V → Hp → Prop} (a : At K (C.wi Y) W s σ H) (p : Pst K (C.wi Y) W σ (bnd (appA i j ca cb) f s) P)
    (go : ∀ ds es s2 W2 H2, W.Le W2 → At K (C.wi Y) W2 s2 σ H2 → Pst K (C.wi Y) W2 σ (f (ds ++ es) s2) P → ∀ us ws, Reps K W2 us ds → Reps K W2 ws es → us.length = i → ws.length = j → QL us ws H2) :
    denA K Y ca σ H (fun us H1 => denA K Y cb σ H1 (fun ws H2 => QL us ws H2)) := by
  have p0 := Pst.bnd p
  unfold appA at p0
  refine ⟨C, W, s, a, (Pst.bnd p0).imp fun ds s1 W1 H1 l1 a1 p1 us ru => ⟨C, W1, s1, a1, (Pst.bnd p1).imp fun es s2 W2 H2 l2 a2 p2 ws rw' => ?_⟩⟩
  by_cases hc : ds.length = i ∧ es.length = j
  · rw [if_pos hc] at p2
    have p3 := p2 W2 H2 (Vw.Le.refl _) a2
    exact go ds es s2 W2 H2 (l1.trans l2) a2 p3 us ws (ru.mono l2) rw' (ru.length.trans hc.1) (rw'.length.trans hc.2)
  · rw [if_neg hc] at p2
    exact p2.elim
end
/-! ### f(e, .., k = v, ..) -/
section
variable {Y : WX} {X : Cx} {k : Nat} {f g C : Addr} {fd : FuncData} {ps ks : List Str} {sp : Sp} {x m : Str} {p pos apos : Pos} {e o : Expr} {es : List Expr} {kws : List Keyword} {ta : TE} {t tk : TA} {np n i : Nat} {mf : Fn} {ca cb : M (List PV)} {co : M PV}
def tCallG (X : Cx) (Y : WX) (n : Nat) (ks : List Str) (sp : Sp) (t tk : TA) : TE := fun σ H Q => t σ H fun vs H1 => tk σ H1 fun zs H2 => vs.length = n ∧ zs.length = ks.length ∧ sp (vs ++ zs) H2 Q (WE Y σ)
theorem pe_callKG (F : FnG X.prog X.w X.K X.mg X.base (L2.CX X.prog X.w) k f fd ps sp) (hgd : X.A.guards = some []) (hr : Room k X.A) (tY : Takes X Y) (hg : Gl X x) (hm : X.mg x = some (.ref f)) (hk : PySem.W.keepIn X.K (.ref f) = true) (hb : KB X.K fd ps n ks)
    (ha : PA X (e :: es) t) (hkw : PK X kws tk) (hall : (backToKw pos (keywordEach kws X.env)).all (·.1.isSome) = true := by rfl) (hks : (backToKw pos (keywordEach kws X.env)).filterMap (·.1) = ks := by rfl)
    (hdb : (x == ("__debug__" : Str)) = false := by decide) (he : starEach (e :: es) X.env = (false, eval e X.env) :: starEach es X.env := by rfl) :
    PE X (.Call (.Name x p) (e :: es) kws pos) (tCallG X Y n ks sp t tk) := by
  refine ⟨fun pins s σ H Q I h => wpAny_Call_Name_kw (ld_glob I hg hm ?_ hdb)⟩
  refine callWith_KA hk hall (thn (ha.run pos pins s σ H _ I h) ?_) he
  rintro us s1 ⟨vs, H1, I1, r, q⟩
  refine thn (hkw.run pos pins s1 σ H1 _ I1 q) ?_
  rintro ws s2 ⟨zs, H2, I2, rz, l1, l2, q2⟩
  rw [hks]
  exact ⟨I2.kIn, run_fnG F hgd hr (passAt tY σ) I2 (hb.to s2 us ws I2.kIn (r.length.symm.trans l1) (rz.length.symm.trans l2)) (hb.rel r rz) q2⟩
/-- o.m(e, .., k = v, ..), the class asked for its def -/
def tMethG (X : Cx) (Y : WX) (k : Nat) (m : Str) (np n : Nat) (ks : List Str) (ta : TE) (t tk : TA) : TE := fun σ H Q => ta σ H fun x H1 => ∃ a C dx fs g mf, x = .ref a ∧ H1 a = some (.ins C dx fs) ∧ fs.lookup m = none ∧ Cls X.K C ∧ Meth X.K C m g ∧ Ent X.prog X.w X.K X.mg X.base k g np (n + 1) ks mf ∧
  t σ H1 fun vs H2 => tk σ H2 fun zs H3 => vs.length = n ∧ zs.length = ks.length ∧ spM X.K np mf (x :: (vs ++ zs)) H3 Q (WE Y σ)
theorem pe_methKG {pl : Sem Bool} (he : PE X o ta) (hgd : X.A.guards = some []) (hr : Room k X.A) (tY : Takes X Y) (ha : PA X (e :: es) t) (hkw : PK X kws tk) (hall : (backToKw pos (keywordEach kws X.env)).all (·.1.isSome) = true := by rfl) (hks : (backToKw pos (keywordEach kws X.env)).filterMap (·.1) = ks := by rfl)
    (hst : starEach (e :: es) X.env = (false, eval e X.env) :: starEach es X.env := by rfl)
    (ht : eval (.Call (.Attribute o m apos) (e :: es) kws pos) X.env = (do
      let ov ← eval o X.env
      standAt apos.atName
      let (f, first) ← holding [ov] (getMethod ov m pl)
      callWith pos f first (backTo pos (starEach (e :: es) X.env)) (backToKw pos (keywordEach kws X.env))) := by rfl) :
    PE X (.Call (.Attribute o m apos) (e :: es) kws pos) (tMethG X Y k m np n ks ta t tk) := by
  refine ⟨fun pins s σ H Q I h => ?_⟩
  refine PySem.W.methodCall_KW (pl := pl) (thn (he.run pins s σ H _ I h) ?_) ht
  rintro u s1 ⟨x, H1, I1, rx, a, C, dx, fs, g, mf, ex, ea, l, c, hm, F, q⟩
  subst ex
  obtain rfl : u = Value.ref a := rx
  obtain ⟨fd, ps, hnp, G, hb⟩ := F.ex
  refine getmeth_ok I1 ea c hm l ?_
  refine callWith_KA (first := [.ref a]) hm.kp hall (thn (ha.run pos pins s1 σ H1 _ I1 q) ?_) hst
  rintro us s2 ⟨vs, H2, I2, r, q2⟩
  refine thn (hkw.run pos pins s2 σ H2 _ I2 q2) ?_
  rintro ws s3 ⟨zs, H3, I3, rz, l1, l2, q3⟩
  rw [hks]
  have ln : (Value.ref a :: us).length = n + 1 := by rw [List.length_cons, ← r.length, l1]
  have r' : Vals (V.ref a :: vs) (Value.ref a :: us) := .cons rfl r
  exact ⟨I3.kIn, run_fnG G hgd hr (passAt tY σ) I3 (hb.to s3 (Value.ref a :: us) ws I3.kIn ln (rz.length.symm.trans l2)) (hb.rel r' rz) q3⟩
end
/-! ### in short -/
/-- the classes' defs of that name: each with its class's name, and how it is called -/
structure TabOk (P : Program) (w : World) (K : PySem.W.Frag) (mg : Str → Option Value) (base : Heap) (k : Nat) (m : Str) (np n : Nat) (ks : List Str) (tab : List (Str × Fn)) : Prop where
  ok : ∀ c mf, tab.lookup c = some mf → ∃ C g, ClsAt K c C ∧ Cls K C ∧ Meth K C m g ∧ Ent P w K mg base k g np n ks mf
/-- o.m(..) -/
def methM (tab : List (Str × Fn)) (n : Nat) (m : Str) (co : M PV) (r : M (List PV)) : M PV := bnd co fun d s => match insOf s d with
  | some (c, ks, vs) => if (ks.zip vs).lookup m = none then (match tab.lookup c with
    | some f => bnd r (fun ds => runM f n (d :: ds)) s
    | none => .stk) else .stk
  | none => .stk
section
variable {Y : WX} {X : Cx} {k : Nat} {ks : List Str} {m x : Str} {np n i : Nat} {ca cb : M (List PV)} {co : M PV} {tab : List (Str × Fn)} {σ : L2.St} {H : Hp} {Q : VK} {mf : Fn}
theorem den_callK (hl : ∀ n ds st, mf n ds st ≠ .stk → ds.length = np) (h : den X.K Y (callM mf n (appA i ks.length ca cb)) σ H Q) : tCallG X Y i ks (spM X.K np mf) (denA X.K Y ca) (denA X.K Y cb) σ H Q := by
  obtain ⟨C, W, s, at', p⟩ := h
  refine den_appA at' (f := fun ds s => runM mf n ds s) p fun ds es s2 W2 H2 l2 a2 p2 us ws r1 r2 l1 l2' => ?_
  exact ⟨l1, l2', sp_run hl a2 (r1.append r2) p2⟩
theorem den_meth (T : TabOk X.prog X.w X.K X.mg X.base k m np (i + 1) ks tab) (h : den X.K Y (methM tab n m co (appA i ks.length ca cb)) σ H Q) : tMethG X Y k m np i ks (den X.K Y co) (denA X.K Y ca) (denA X.K Y cb) σ H Q := by
  obtain ⟨C, W, s, at', p⟩ := h
  refine ⟨C, W, s, at', (Pst.bnd p).imp fun d s1 W1 H1 l1 at1 p1 x rx => ?_⟩
  split at p1
  · rename_i c kk vv e
    split at p1
    · rename_i hno
      split at p1
      · rename_i mf hmf
        obtain ⟨a, Cc, dx, us, rfl, h1, h2, l, ru⟩ := insOf_rep at1 rx e
        obtain ⟨C2, g, k1, k2, k3, F⟩ := T.ok c mf hmf
        cases cls_uniq h1 k1
        refine ⟨a, _, dx, _, g, mf, rfl, h2, zip_none ru l hno, k2, k3, F, ?_⟩
        refine den_appA at1 (f := fun ds s => runM mf n (d :: ds) s) p1 fun ds es s2 W2 H2 l2 a2 p2 us ws r1 r2 l1 l2' => ?_
        exact ⟨l1, l2', sp_run F.len a2 (.cons (rx.mono l2) (r1.append r2)) p2⟩
      · exact p1.elim
    · exact p1.elim
  · exact p1.elim
end
end Dn
/-! Ob4: classes called, properties, instances called; the rules in short. -/
namespace Dn
open PySem L2 PySem.Spec PyProof.Rows
/-! ### C(e, .., k = v, ..) -/
theorem guards_under {A : Around} {C : Addr} {us : List Value} {kw : List (Str × Value)} (h : A.guards = some []) : (A.under (.builtin "type.__call__" ⟨.ref C :: us, kw⟩)).guards = some [] := by
  first | exact h | simpa [Around.under, Code.weight, Code.isCreation, Code.isGuard, Code.isCaller, Code.frames, Code.isFrame, guardIds] using h
section
variable {Y : WX} {X : Cx} {k : Nat} {f g C : Addr} {fd : FuncData} {ps ks : List Str} {sp : Sp} {x m : Str} {p pos apos : Pos} {e o : Expr} {es : List Expr} {kws : List Keyword} {ta : TE} {t tk : TA} {np n i : Nat} {mf : Fn} {ca cb : M (List PV)} {co : M PV} {σ : L2.St} {H : Hp} {Q : VK}
def tMakeG (X : Cx) (Y : WX) (C : Addr) (n : Nat) (ks : List Str) (np : Nat) (mf : Fn) (t tk : TA) : TE := fun σ H Q => t σ H fun vs H1 => tk σ H1 fun zs H2 => vs.length = n ∧ zs.length = ks.length ∧
  ∀ x dx, H2 x = none → H2 dx = none → dx ≠ x → spM X.K np mf (.ref x :: (vs ++ zs)) (upd (upd H2 dx (.own x)) x (.ins C dx [])) (fun v H3 => v = .non ∧ Q (.ref x) H3) (WE Y σ)
theorem run_makeG {pins : List (Addr × Obj)} {s : Shared} {us ws : List Value} {vs zs : List V} (M : Mk X.K C f) (F : Ent X.prog X.w X.K X.mg X.base k f np (n + 1) ks mf) (hgd : X.A.guards = some []) (hr : Room (k + 1) X.A) (tY : Takes X Y)
    (I : Inv X pins σ H s) (r : Vals vs us) (rz : Vals zs ws) (l1 : vs.length = n) (l2 : zs.length = ks.length)
    (h : ∀ x dx, H x = none → H dx = none → dx ≠ x → spM X.K np mf (.ref x :: (vs ++ zs)) (upd (upd H dx (.own x)) x (.ins C dx [])) (fun v H3 => v = .non ∧ Q (.ref x) H3) (WE Y σ)) :
    wpAny (model X.prog X.w) X.A (call (.ref C) us (ks.zip ws)) (EP X pins σ Q) X.xe s := by
  obtain ⟨fd, ps, hnp, G, hb⟩ := F.ex
  have n0 : H s.heap.objs.size = none := I.hok.fresh (Nat.le_refl _)
  have n1 : H (s.heap.objs.size + 1) = none := I.hok.fresh (Nat.le_succ _)
  have want := h (s.heap.objs.size + 1) s.heap.objs.size n1 n0 (Nat.ne_of_lt (Nat.lt_succ_self _))
  have J := Inv.made (C := C) I
  have rS : Vals (V.ref (s.heap.objs.size + 1) :: vs) (Value.ref (s.heap.objs.size + 1) :: us) := .cons rfl r
  have ln : (Value.ref (s.heap.objs.size + 1) :: us).length = n + 1 := by rw [List.length_cons, ← r.length, l1]
  have bd := hb.to _ (Value.ref (s.heap.objs.size + 1) :: us) ws J.kIn ln (rz.length.symm.trans l2)
  have go := G.run _ X.stack _ _ ⟨Value.ref (s.heap.objs.size + 1) :: us, ks.zip ws⟩ _ _ _ _ (guards_under hgd) (hr.make C us (ks.zip ws)) (J.env0.make C us (ks.zip ws)) bd (hb.rel rS rz) want
  refine wpAny_call (make_map (f := f) I.kIn M.makes M.init (beq_iff_eq.mp M.fn) ?_)
  refine codeAny_mono go fun res s' hq => ?_
  match res, hq with
  | .error e, hq => exact passAt tY σ pins _ _ e s' J hq
  | .ok (.ret u), hq =>
    obtain ⟨v, H', J', rv, ev, q'⟩ := J.after hq
    subst ev
    exact ⟨rv, V.ref (s.heap.objs.size + 1), H', J', rfl, q'⟩
  | .ok .next, hq => exact False.elim hq
  | .ok .brk, hq => exact False.elim hq
  | .ok .cont, hq => exact False.elim hq
theorem pe_makeG (M : Mk X.K C f) (F : Ent X.prog X.w X.K X.mg X.base k f np (n + 1) ks mf) (hgd : X.A.guards = some []) (hr : Room (k + 1) X.A) (tY : Takes X Y) (hg : Gl X x) (hm : X.mg x = some (.ref C)) (ha : PA X (e :: es) t) (hkw : PK X kws tk)
    (hall : (backToKw pos (keywordEach kws X.env)).all (·.1.isSome) = true := by rfl) (hks : (backToKw pos (keywordEach kws X.env)).filterMap (·.1) = ks := by rfl) (hdb : (x == ("__debug__" : Str)) = false := by decide)
    (he : starEach (e :: es) X.env = (false, eval e X.env) :: starEach es X.env := by rfl) :
    PE X (.Call (.Name x p) (e :: es) kws pos) (tMakeG X Y C n ks np mf t tk) := by
  refine ⟨fun pins s σ H Q I h => wpAny_Call_Name_kw (ld_glob I hg hm ?_ hdb)⟩
  refine callWith_KA M.kp hall (thn (ha.run pos pins s σ H _ I h) ?_) he
  rintro us s1 ⟨vs, H1, I1, r, q⟩
  refine thn (hkw.run pos pins s1 σ H1 _ I1 q) ?_
  rintro ws s2 ⟨zs, H2, I2, rz, l1, l2, q2⟩
  rw [hks]
  exact ⟨I2.kIn, run_makeG M F hgd hr tY I2 r rz l1 l2 q2⟩
end
/-- a class called: the def __init__ on a new instance, which is a value behind it -/
def makeM (c : Str) (mf : Fn) (n : Nat) (r : M (List PV)) : M PV := bnd r fun ds s => match mf n (.hnd s.sto.length :: ds) (s.sto ++ [.ins c [] [], .own s.sto.length]) with
  | .ok .non st' => (match st'[s.sto.length]?, st'[s.sto.length + 1]? with
    | some (.ins c' ks vs), some (.own j) => if j = s.sto.length then .ok (.obj c' ks vs) { s with sto := (st'.set s.sto.length .gone).set (s.sto.length + 1) .gone } else .stk
    | _, _ => .stk)
  | .exc e st' => .exc e { s with sto := st' }
  | _ => .stk
theorem At.hs_le {K : PySem.W.Frag} {C : Ctx} {W : Vw} {s : S} {σ : L2.St} {H : Hp} (h : At K C W s σ H) : C.hs0.length ≤ W.hs.length := by
  rcases Nat.lt_or_ge W.hs.length C.hs0.length with z | z
  · have := h.pre W.hs.length _ (List.getElem?_eq_getElem z)
    rw [List.getElem?_eq_none (Nat.le_refl _)] at this
    cases this
  · exact z
theorem den_make {X : Cx} {Y : WX} {Cc : Addr} {c : Str} {i np n : Nat} {ks : List Str} {mf : Fn} {ca cb : M (List PV)} {σ : L2.St} {H : Hp} {Q : VK} (hc : ClsAt X.K c Cc) (hl : ∀ n ds st, mf n ds st ≠ .stk → ds.length = np)
    (h : den X.K Y (makeM c mf n (appA i ks.length ca cb)) σ H Q) : tMakeG X Y Cc i ks np mf (denA X.K Y ca) (denA X.K Y cb) σ H Q := by
  obtain ⟨C, W, s, at', p⟩ := h
  refine den_appA at' p fun ds es s2 W2 H2 l2 a2 p2 us ws r1 r2 l1 l2' => ⟨l1, l2', fun x dx hx hd ne => ?_⟩
  obtain ⟨le, a3, rx⟩ := a2.newI hx hd ne hc
  have hlen : s2.sto.length = W2.hs.length := a2.ok.len
  have hkx : (W2.hs ++ [x, dx])[s2.sto.length]? = some x := by rw [hlen]; exact two_0
  have rep : Reps X.K ⟨W2.F, W2.hs ++ [x, dx]⟩ (.ref x :: (us ++ ws)) (.hnd s2.sto.length :: (ds ++ es)) := .cons rx ((r1.append r2).mono le)
  have len : ∀ {z : RR}, mf n (.hnd s2.sto.length :: (ds ++ es)) (s2.sto ++ [.ins c [] [], .own s2.sto.length]) = z → z ≠ .stk → (V.ref x :: (us ++ ws)).length = np := fun {z} e q => by rw [rep.length]; exact hl _ _ _ (by rw [e]; exact q)
  cases e : mf n (.hnd s2.sto.length :: (ds ++ es)) (s2.sto ++ [.ins c [] [], .own s2.sto.length]) with
  | stk => simp only [e] at p2; exact p2.elim
  | exc z st' =>
    simp only [e] at p2
    refine ⟨len e (fun z => nomatch z), n, _, _, _, a3.ok, rep, ?_⟩
    rw [e]
    exact fun W' H' cls d l ok g r => p2 W' σ H' cls d (le.trans l) (a3.call l ok g) r
  | ok d st' =>
    simp only [e] at p2
    cases d <;> try exact p2.elim
    refine ⟨len e (fun z => nomatch z), n, _, _, _, a3.ok, rep, ?_⟩
    rw [e]
    intro v W' H' l ok g rv
    cases rv
    refine ⟨rfl, ?_⟩
    have a4 := a3.call l ok g
    have hx' : W'.hs[s2.sto.length]? = some x := l.pre _ _ hkx
    dsimp only at p2
    split at p2
    · rename_i c' ks' vs' j e1 e2
      split at p2
      · rename_i hj
        subst hj
        obtain ⟨W5, l5, a5, r5⟩ := a4.done (by rw [hlen]; exact a2.hs_le) hx' e1 e2
        exact p2 W5 H' (le.trans (l.trans l5)) a5 _ r5
      · exact p2.elim
    · exact p2.elim
/-! ### properties -/
structure PropE (P : Program) (w : World) (K : PySem.W.Frag) (mg : Str → Option Value) (base : Heap) (k : Nat) (f : Str) (C : Addr) (mf : Fn) : Prop where
  ex : ∃ p g, PropOf K C f p g ∧ Ent P w K mg base k g 1 1 [] mf
def tPropG (X : Cx) (k : Nat) (f : Str) (ta : TE) : TE := fun σ H Q => ta σ H fun x H1 => ∃ a C dx fs mf, x = .ref a ∧ H1 a = some (.ins C dx fs) ∧ Cls X.K C ∧ PropE X.prog X.w X.K X.mg X.base k f C mf ∧ spM X.K 1 mf [.ref a] H1 Q (fun _ _ _ => False)
theorem pe_propG {X : Cx} {k : Nat} {f : Str} {e : Expr} {pos : Pos} {ta : TE} (he : PE X e ta) (hgd : X.A.guards = some []) (hr : Room (k + 1) X.A) (hab : attributeBase e f X.env (eval e X.env) = eval e X.env := by rfl) : PE X (.Attribute e f pos) (tPropG X k f ta) := by
  refine ⟨fun pins s σ H Q I h => attr_of hab (thn (he.run pins s σ H _ I h) ?_)⟩
  rintro u s1 ⟨x, H1, I1, rx, a, C, dx, fs, mf, ex, ea, c, P, q⟩
  subst ex
  obtain rfl : u = Value.ref a := rx
  obtain ⟨p, g, hp, F⟩ := P.ex
  obtain ⟨fd, ps, hnp, G, hb⟩ := F.ex
  obtain ⟨mA, O, _⟩ := ins_get I1.hok ea
  obtain ⟨od, J, _⟩ := O.look
  obtain ⟨rest, hrec⟩ := hp.rec_
  have I2 := I1.tok (s1.toks + 1)
  have hc : (PySem.W.clsIn X.K C).isSome = true := by
    obtain ⟨cd, hc, _⟩ := PySem.W.any_some c.hd
    rw [hc]
    rfl
  have bd := hb.to { s1 with toks := s1.toks + 1 } [.ref a] [] I2.kIn rfl rfl
  have go := G.run X.A.in1 X.stack { s1 with toks := s1.toks + 1 } H1 _ _ _ Q (fun _ _ _ => False) hgd hr.in1 I2.env0.in1 bd (hb.rel (vs := [V.ref a]) (zs := []) (.cons rfl .nil) .nil) q
  have gp := PySem.W.plainGet_of (c.get f)
  refine PySem.W.get_bind I1.kIn J gp.1 (PySem.W.findObj_data hc hp.at_ hp.get hp.tak) gp.2 (wpAny_call (PySem.W.prop_get (s := { s1 with toks := s1.toks + 1 }) I1.kIn hrec (codeAny_mono go fun res s' hq => ?_)))
  match res, hq with
  | .error er, hq =>
    obtain ⟨_, _, _, _, _, _, _, _, _, _, _, _, w⟩ := hq
    exact w.elim
  | .ok (.ret u), hq =>
    obtain ⟨v, H', I3, rv, q3⟩ := I2.after hq
    show wpAny _ _ (handedOut u) _ _ _
    rw [PySem.W.handedOut_of (handed_of rv)]
    exact wpAny_pure ⟨v, H', I3, rv, q3⟩
  | .ok .next, hq => exact False.elim hq
  | .ok .brk, hq => exact False.elim hq
  | .ok .cont, hq => exact False.elim hq
structure PropTab (P : Program) (w : World) (K : PySem.W.Frag) (mg : Str → Option Value) (base : Heap) (k : Nat) (f : Str) (tab : List (Str × Fn)) : Prop where
  ok : ∀ c mf, tab.lookup c = some mf → ∃ C, ClsAt K c C ∧ Cls K C ∧ PropE P w K mg base k f C mf
/-- e.f, a property: it lets nothing out -/
def propM (tab : List (Str × Fn)) (n : Nat) (d : PV) : M PV := fun s => match insOf s d with
  | some (c, _, _) => (match tab.lookup c with
    | some f => (match f n [d] s.sto with
      | .ok r st' => .ok r { s with sto := st' }
      | _ => .stk)
    | none => .stk)
  | none => .stk
theorem den_prop {X : Cx} {Y : WX} {k : Nat} {f : Str} {tab : List (Str × Fn)} {n : Nat} {co : M PV} {σ : L2.St} {H : Hp} {Q : VK} (T : PropTab X.prog X.w X.K X.mg X.base k f tab) (h : den X.K Y (bnd co (propM tab n)) σ H Q) : tPropG X k f (den X.K Y co) σ H Q := by
  obtain ⟨C, W, s, at', p⟩ := h
  refine ⟨C, W, s, at', (Pst.bnd p).imp fun d s1 W1 H1 l1 at1 p1 x rx => ?_⟩
  unfold propM at p1
  split at p1
  · rename_i c kk vv e
    split at p1
    · rename_i mf hmf
      obtain ⟨a, Cc, dx, us, rfl, h1, h2, l, ru⟩ := insOf_rep at1 rx e
      obtain ⟨C2, k1, k2, P⟩ := T.ok c mf hmf
      cases cls_uniq h1 k1
      split at p1
      · rename_i r st' er
        refine ⟨a, _, dx, _, mf, rfl, h2, k2, P, rfl, n, W1, s1.sto, [d], at1.ok, .cons rx .nil, ?_⟩
        rw [er]
        exact fun v W' H' l ok g rv => p1 W' H' l (at1.call l ok g) v rv
      · exact p1.elim
    · exact p1.elim
  · exact p1.elim
end Dn
/-! Ob5: the rules of Ob3, Ob4 in short; keywords; stars; types; chains. -/
namespace Dn
open PySem L2 PySem.Spec PyProof.Rows
theorem FnG.up {P : Program} {w : World} {K : PySem.W.Frag} {mg : Str → Option Value} {base : Heap} {j k : Nat} {g : Addr} {np n : Nat} {ks : List Str} {m : Fn} (F : Ent P w K mg base j g np n ks m) (h : j ≤ k) : Ent P w K mg base k g np n ks m := by
  obtain ⟨fd, ps, e, G, b⟩ := F.ex
  exact ⟨⟨fd, ps, e, G.mono h, b⟩, F.len⟩
/-- a def called by name with keywords -/
structure DfK (P : Program) (w : World) (K : PySem.W.Frag) (mg : Str → Option Value) (base : Heap) (k : Nat) (x : Str) (np n : Nat) (ks : List Str) (m : Fn) : Prop where
  ex : ∃ f, mg x = some (.ref f) ∧ PySem.W.keepIn K (.ref f) = true ∧ Ent P w K mg base k f np n ks m
/-- a class called -/
structure MkK (P : Program) (w : World) (K : PySem.W.Frag) (mg : Str → Option Value) (base : Heap) (k : Nat) (c : Str) (np n : Nat) (ks : List Str) (m : Fn) : Prop where
  ex : ∃ C f, ClsAt K c C ∧ mg c = some (.ref C) ∧ Mk K C f ∧ Ent P w K mg base k f np (n + 1) ks m
section
variable {Y : WX} {X : Cx} {k j : Nat} {ks : List Str} {x m c : Str} {p pos apos kp : Pos} {e o : Expr} {es : List Expr} {kws : List Keyword} {np n i : Nat} {mf : Fn} {ca cb : M (List PV)} {co ce : M PV} {tab : List (Str × Fn)}
theorem akN : PK X [] (denA X.K Y argN) := ⟨fun pos pins s σ H Q I h => pk_nil.run pos pins s σ H Q I (den_argN h)⟩
theorem akC {nm : Option Str} (he : PE X e (den X.K Y ce)) (hr : PK X kws (denA X.K Y cb)) : PK X (⟨nm, e, kp⟩ :: kws) (denA X.K Y (argC ce cb)) := ⟨fun pos pins s σ H Q I h => (pk_cons he hr).run pos pins s σ H Q I (den_argC h)⟩
theorem xcallK (n : Nat) (D : DfK X.prog X.w X.K X.mg X.base j x np i ks mf) (hgd : X.A.guards = some []) (hr : Room k X.A) (tY : Takes X Y) (hjk : j ≤ k) (ha : PA X (e :: es) (denA X.K Y ca)) (hkw : PK X kws (denA X.K Y cb)) (hg : Gl X x := by rfl) (hall : (backToKw pos (keywordEach kws X.env)).all (·.1.isSome) = true := by rfl) (hks : (backToKw pos (keywordEach kws X.env)).filterMap (·.1) = ks := by rfl)
    (hdb : (x == ("__debug__" : Str)) = false := by decide) (he : starEach (e :: es) X.env = (false, eval e X.env) :: starEach es X.env := by rfl) : PE X (.Call (.Name x p) (e :: es) kws pos) (den X.K Y (callM mf n (appA i ks.length ca cb))) := by
  obtain ⟨f, hm, hk, F⟩ := D.ex
  obtain ⟨fd, ps, _, G, b⟩ := F.ex
  exact pe_imp (pe_callKG G hgd (hr.mono hjk) tY hg hm hk b ha hkw hall hks hdb he) fun _ _ _ => den_callK F.len
theorem xmake (n : Nat) (D : MkK X.prog X.w X.K X.mg X.base j c np i ks mf) (hgd : X.A.guards = some []) (hr : Room k X.A) (tY : Takes X Y) (hjk : j + 1 ≤ k) (ha : PA X (e :: es) (denA X.K Y ca)) (hkw : PK X kws (denA X.K Y cb)) (hg : Gl X c := by rfl) (hall : (backToKw pos (keywordEach kws X.env)).all (·.1.isSome) = true := by rfl) (hks : (backToKw pos (keywordEach kws X.env)).filterMap (·.1) = ks := by rfl)
    (hdb : (c == ("__debug__" : Str)) = false := by decide) (he : starEach (e :: es) X.env = (false, eval e X.env) :: starEach es X.env := by rfl) : PE X (.Call (.Name c p) (e :: es) kws pos) (den X.K Y (makeM c mf n (appA i ks.length ca cb))) := by
  obtain ⟨C, f, hc, hm, M, F⟩ := D.ex
  exact pe_imp (pe_makeG M F hgd (hr.mono hjk) tY hg hm ha hkw hall hks hdb he) fun _ _ _ => den_make hc F.len
theorem xmeth {pl : Sem Bool} (n : Nat) (T : TabOk X.prog X.w X.K X.mg X.base j m np (i + 1) ks tab) (hgd : X.A.guards = some []) (hr : Room k X.A) (tY : Takes X Y) (hjk : j ≤ k) (ho : PE X o (den X.K Y co)) (ha : PA X (e :: es) (denA X.K Y ca)) (hkw : PK X kws (denA X.K Y cb)) (hall : (backToKw pos (keywordEach kws X.env)).all (·.1.isSome) = true := by rfl) (hks : (backToKw pos (keywordEach kws X.env)).filterMap (·.1) = ks := by rfl)
    (hst : starEach (e :: es) X.env = (false, eval e X.env) :: starEach es X.env := by rfl)
    (ht : eval (.Call (.Attribute o m apos) (e :: es) kws pos) X.env = (do
      let ov ← eval o X.env
      standAt apos.atName
      let (f, first) ← holding [ov] (getMethod ov m pl)
      callWith pos f first (backTo pos (starEach (e :: es) X.env)) (backToKw pos (keywordEach kws X.env))) := by rfl) :
    PE X (.Call (.Attribute o m apos) (e :: es) kws pos) (den X.K Y (methM tab n m co (appA i ks.length ca cb))) := pe_imp (pe_methKG ho hgd (hr.mono hjk) tY ha hkw hall hks hst ht) fun _ _ _ => den_meth T
theorem xprop (n : Nat) (T : PropTab X.prog X.w X.K X.mg X.base j m tab) (hgd : X.A.guards = some []) (hr : Room k X.A) (hjk : j + 1 ≤ k) (he : PE X e (den X.K Y ce)) (hab : attributeBase e m X.env (eval e X.env) = eval e X.env := by rfl) : PE X (.Attribute e m pos) (den X.K Y (bnd ce (propM tab n))) := pe_imp (pe_propG he hgd (hr.mono hjk) hab) fun _ _ _ => den_prop T
end
end Dn
/-! Ob6: stars, types, chains, a module's constants. -/
namespace Dn
open PySem L2 StX PySem.Spec PyProof.Rows
section
variable {Y : WX} {K : PySem.W.Frag} {C : Ctx} {W W' : Vw} {σ : L2.St} {H : Hp} {s : S} {Q : VK} {ca cb cc : M PV} {cr : M (List PV)}
/-- *e in an argument list -/
def argS (ca : M PV) (r : M (List PV)) : M (List PV) := bnd ca fun d => match d with
  | .tup xs => bnd r fun ys => ret (xs ++ ys)
  | .lst xs => bnd r fun ys => ret (xs ++ ys)
  | _ => stuck
theorem den_argS {QL : List V → Hp → Prop} (h : denA K Y (argS ca cr) σ H QL) : tStar K (den K Y ca) (denA K Y cr) σ H QL := by
  obtain ⟨C, W, s, at', p⟩ := h
  refine ⟨C, W, s, at', (Pst.bnd p).imp fun d s1 W1 H1 l1 at1 p1 v rv => ?_⟩
  cases d <;> try exact p1.elim
  · rename_i xs
    cases rv with
    | @tup a vs _ hq rs =>
      refine ⟨a, vs, rfl, .inl (same_t at1.ok.sub hq), C, W1, s1, at1, (Pst.bnd p1).imp fun ys s2 W2 H2 l2 at2 p2 ws rw' => ?_⟩
      exact p2 W2 H2 (Vw.Le.refl _) at2 _ ((rs.mono l2).append rw')
  · rename_i xs
    cases rv with
    | @lst a vs _ hq rs =>
      refine ⟨a, vs, rfl, .inr (SqL.of (at1.ok.sub _ _ hq)), C, W1, s1, at1, (Pst.bnd p1).imp fun ys s2 W2 H2 l2 at2 p2 ws rw' => ?_⟩
      exact p2 W2 H2 (Vw.Le.refl _) at2 _ ((rs.mono l2).append rw')
/-- min, max of two ints -/
def maxP : PV → PV → Option PV
  | .int i, .int j => some (.int (if j > i then j else i))
  | _, _ => none
def minP : PV → PV → Option PV
  | .int i, .int j => some (.int (if j < i then j else i))
  | _, _ => none
abbrev opMax (a b : PV) : M PV := lft (maxP a b)
abbrev opMin (a b : PV) : M PV := lft (minP a b)
theorem bin_max : Bin (fun x y H Q => ∃ i j, [x, y] = [.int i, .int j] ∧ Q (.int (if j > i then j else i)) H) K opMax := by
  intro C W s σ H v w a b Q at' ra rb p
  obtain ⟨d, e, q⟩ := p.lft'
  have q0 := q W H (Vw.Le.refl W) at'
  unfold maxP at e
  split at e
  · cases e
    cases ra.int
    cases rb.int
    exact ⟨_, _, rfl, q0 _ (.int _)⟩
  · cases e
theorem bin_min : Bin (fun x y H Q => ∃ i j, [x, y] = [.int i, .int j] ∧ Q (.int (if j < i then j else i)) H) K opMin := by
  intro C W s σ H v w a b Q at' ra rb p
  obtain ⟨d, e, q⟩ := p.lft'
  have q0 := q W H (Vw.Le.refl W) at'
  unfold minP at e
  split at e
  · cases e
    cases ra.int
    cases rb.int
    exact ⟨_, _, rfl, q0 _ (.int _)⟩
  · cases e
/-- a <= b <= c -/
def chainM (f g : PV → PV → M PV) (ca cb cc : M PV) : M PV := bnd ca fun a => bnd cb fun b => bnd (f a b) fun d => match d with
  | .bl true => bnd cc fun c => g b c
  | .bl false => ret (.bl false)
  | _ => stuck
theorem den_chain {f g : PV → PV → M PV} {r r' : V → V → Hp → VK → Prop} (hf : Bin r K f) (hg : Bin r' K g) (h : den K Y (chainM f g ca cb cc) σ H Q) : tChain r r' (den K Y ca) (den K Y cb) (den K Y cc) σ H Q := by
  obtain ⟨C, W, s, at', p⟩ := h
  refine ⟨C, W, s, at', (Pst.bnd p).imp fun a s1 W1 H1 l1 at1 p1 v rv => ⟨C, W1, s1, at1, (Pst.bnd p1).imp fun b s2 W2 H2 l2 at2 p2 w rw' => ?_⟩⟩
  refine hf _ W2 s2 σ H2 v w a b _ at2 (.rep (rv.mono l2)) (.rep rw') ((Pst.bnd p2).imp fun d s3 W3 H3 l3 at3 p3 z rz => ?_)
  cases d <;> try exact p3.elim
  rename_i bb
  cases rz
  refine ⟨bb, rfl, ?_⟩
  cases bb with
  | true =>
    rw [if_pos rfl]
    exact ⟨C, W3, s3, at3, (Pst.bnd p3).imp fun c s4 W4 H4 l4 at4 p4 y ry => hg _ W4 s4 σ H4 w y b c _ at4 (.rep (rw'.mono (l3.trans l4))) (.rep ry) p4⟩
  | false =>
    rw [if_neg (fun z => nomatch z)]
    exact p3 W3 H3 (Vw.Le.refl _) at3 _ (.bl false)
/-- the name of a value's built-in type -/
def tyP : PV → Option String
  | .non => some "NoneType"
  | .bl _ => some "bool"
  | .int _ => some "int"
  | .str _ => some "str"
  | .tup _ => some "tuple"
  | .lst _ => some "list"
  | .scr _ => some "list"
  | .dic _ => some "dict"
  | .dct _ _ => some "dict"
  | _ => none
def isiP (nm : String) (d : PV) : Option PV := (tyP d).bind fun t => (kitB t nm).map PV.bl
abbrev fIsi (nm : String) (d : PV) : M PV := lft (isiP nm d)
theorem ty_rep {d : PV} {v : V} {t : String} (a : At K C W s σ H) (r : Rep K W v d) (e : tyP d = some t) : TyX K H v (.type t) := by
  cases r with
  | non => cases e; exact .base .non
  | bl b => cases e; exact .base (.bl b)
  | int i => cases e; exact .base (.int i)
  | str x => cases e; exact .base (.str x)
  | tup hq _ =>
    cases e
    rcases same_t a.ok.sub hq with (h | ⟨o, h⟩) | ⟨o, its, n, h1, h2, h3, _⟩
    · exact .base (.tup h)
    · exact .fTuple h
    · exact .kTuple h1 h2
  | lst hq _ => cases e; exact .base (.lst (a.ok.sub _ _ hq))
  | scr hq =>
    cases e
    rcases a.ok.sub.seq hq with (h | ⟨o, h⟩) | ⟨o, its, n, h1, h2, _⟩
    · exact .base (.lst h)
    · exact .base (.frz h)
    · exact .kList h1 h2
  | hnd _ =>
    have e : (none : Option String) = some t := e
    cases e
  | obj =>
    have e : (none : Option String) = some t := e
    cases e
  | exn =>
    have e : (none : Option String) = some t := e
    cases e
  | dic h => cases e; exact .base (.dK (a.ok.sub _ _ h))
  | dct h => cases e; exact .fDict (a.ok.sub _ _ h)
  | kt _ =>
    have e : (none : Option String) = some t := e
    cases e
theorem den_isi {nm : String} (h : den K Y (bnd ca (fIsi nm)) σ H Q) : tCB (rIsi K) (tCons (den K Y ca) (tCons (tC (.ty nm)) tNil)) σ H Q := by
  obtain ⟨C, W, s, at', p⟩ := h
  refine ⟨C, W, s, at', (Pst.bnd p).imp fun d s1 W1 H1 l1 at1 p1 v rv => ?_⟩
  obtain ⟨z, e, q⟩ := p1.lft'
  have q0 := q W1 H1 (Vw.Le.refl W1) at1
  unfold isiP at e
  obtain ⟨t, e1, e2⟩ := Option.bind_eq_some_iff.mp e
  obtain ⟨b, e3, e4⟩ := Option.map_eq_some_iff.mp e2
  subst e4
  exact ⟨v, .ty nm, .type t, .type nm, b, rfl, .ty nm, ty_rep at1 rv e1, kit_ty e3, q0 _ (.bl b)⟩
end
section
variable {Y : WX} {X : Cx} {a b c e : Expr} {es : List Expr} {ca cb cc : M PV} {cr : M (List PV)} {pos p px : Pos}
theorem acS (ha : PE X e (den X.K Y ca)) (hr : PA X es (denA X.K Y cr)) (hs : starEach (.Starred e p :: es) X.env = (true, eval e X.env) :: starEach es X.env := by rfl) : PA X (.Starred e p :: es) (denA X.K Y (argS ca cr)) := pa_imp (pa_star ha hr hs) fun _ _ _ => den_argS
theorem xmax2 (hc : X.calm = true) (hm : X.mg "max" = none) (ha : PE X a (den X.K Y ca)) (hb : PE X b (den X.K Y cb)) (hg : Gl X "max" := by rfl) (h1 : starEach [a, b] X.env = (false, eval a X.env) :: starEach [b] X.env := by rfl) (h2 : starEach [b] X.env = (false, eval b X.env) :: starEach [] X.env := by rfl) (hpl : (backTo pos (starEach [b] X.env)).any (·.1) = false := by rfl) :
    PE X (.Call (.Name "max" px) [a, b] [] pos) (den X.K Y (bin ca cb opMax)) := pe_imp (pe_callB (call_max2 hc) hg hm PyProof.Rows.Boot.«max» (pa_cons ha (pa_cons hb pa_nil h2) h1) (by decide) (by decide) h1 hpl) fun _ _ _ h => den_bin bin_max h
theorem xmin2 (hc : X.calm = true) (hm : X.mg "min" = none) (ha : PE X a (den X.K Y ca)) (hb : PE X b (den X.K Y cb)) (hg : Gl X "min" := by rfl) (h1 : starEach [a, b] X.env = (false, eval a X.env) :: starEach [b] X.env := by rfl) (h2 : starEach [b] X.env = (false, eval b X.env) :: starEach [] X.env := by rfl) (hpl : (backTo pos (starEach [b] X.env)).any (·.1) = false := by rfl) :
    PE X (.Call (.Name "min" px) [a, b] [] pos) (den X.K Y (bin ca cb opMin)) := pe_imp (pe_callB (call_min2 hc) hg hm PyProof.Rows.Boot.«min» (pa_cons ha (pa_cons hb pa_nil h2) h1) (by decide) (by decide) h1 hpl) fun _ _ _ h => den_bin bin_min h
theorem xchain {op op' : CmpOp} {f g : PV → PV → M PV} (hf : CmpOk X op f) (hg : CmpOk X op' g) (ha : PE X a (den X.K Y ca)) (hb : PE X b (den X.K Y cb)) (hc : PE X c (den X.K Y cc)) (hm : lastMarks [op, op'] [b, c] = false := by with_unfolding_all rfl) : PE X (.Compare a [op, op'] [b, c] pos) (den X.K Y (chainM f g ca cb cc)) := by
  obtain ⟨r, h1, h2⟩ := hf.ok
  obtain ⟨r', h3, h4⟩ := hg.ok
  exact pe_imp (pe_chain h1 h3 ha hb hc hm) fun _ _ _ => den_chain h2 h4
theorem xisi {x : Str} {nm : String} (hm : X.mg "isinstance" = none) (hx : X.mg x = none) (hv : bootBuiltins x = some (.type nm)) (ha : PE X a (den X.K Y ca)) (hn : x ≠ "__name__" := by decide) (hd : (x == ("__debug__" : Str)) = false := by decide) (hg : Gl X "isinstance" := by rfl) (hgx : Gl X x := by rfl)
    (h1 : starEach [a, .Name x p] X.env = (false, eval a X.env) :: starEach [.Name x p] X.env := by rfl) (h2 : starEach [.Name x p] X.env = (false, eval (.Name x p) X.env) :: starEach [] X.env := by rfl) (hpl : (backTo pos (starEach [.Name x p] X.env)).any (·.1) = false := by rfl) :
    PE X (.Call (.Name "isinstance" px) [a, .Name x p] [] pos) (den X.K Y (bnd ca (fIsi nm))) := pe_imp (pe_callB call_isi hg hm PyProof.Rows.Boot.«isinstance» (pa_cons ha (pa_cons (pe_bltn hgx hx hv (show RelV (.ty nm) (.type nm) from rfl) hn hd) pa_nil h2) h1) (by decide) (by decide) h1 hpl) fun _ _ _ => den_isi
/-- a module's constant: an int, a text -/
theorem xgI {x : Str} {i : Int} {t : Tok} (hm : X.mg x = some (.int i t)) (hg : Gl X x := by rfl) (hd : (x == ("__debug__" : Str)) = false := by decide) : PE X (.Name x pos) (den X.K Y (ret (.int i))) := pe_imp (pe_glob hg hm (show RelV (.int i) (.int i t) from ⟨t, rfl⟩) hd) fun σ H Q h => by
  obtain ⟨C, W, s, at', p⟩ := h
  exact p W H (Vw.Le.refl _) at' _ (.int i)
theorem xgS {x y : Str} {t : Tok} (hm : X.mg x = some (.str y t)) (hg : Gl X x := by rfl) (hd : (x == ("__debug__" : Str)) = false := by decide) : PE X (.Name x pos) (den X.K Y (ret (.str y))) := pe_imp (pe_glob hg hm (show RelV (.str y) (.str y t) from ⟨t, rfl⟩) hd) fun σ H Q h => by
  obtain ⟨C, W, s, at', p⟩ := h
  exact p W H (Vw.Le.refl _) at' _ (.str y)
end
end Dn
/-! Ob7: super(): defs of a class that ask the class above, in their first statement. -/
namespace Dn
open PySem L2 ClX PySem.Spec PyProof.Rows
theorem run_codeG {X : Cx} {CX : CXT} {k : Nat} {f : Addr} {fd : FuncData} {ps : List Str} {sp : Sp} {E : XK} {pins : List (Addr × Obj)} {σ : L2.St} {H : Hp} {s : Shared} {Q : VK} {us zs : List Value} {kw : List (Str × Value)} {vs : List V} (F : FnG X.prog X.w X.K X.mg X.base CX k f fd ps sp) (hgd : X.A.guards = some []) (hr : Room k X.A) (hx : PassesAt CX X σ E)
    (I : Inv X pins σ H s) (hb : BindsTo s fd ⟨us, kw⟩ (ps.zip zs)) (r : Vals vs zs) (h : sp vs H Q E) : codeAny (model X.prog X.w) X.A (.call (.ref f) ⟨us, kw⟩) (fun r s' => match r with
      | .ok (.ret v) => EP X pins σ Q v s'
      | .ok _ => False
      | .error e => X.xe e s') s := by
  refine codeAny_mono (F.run X.A X.stack s H ⟨us, kw⟩ zs vs Q E hgd hr I.env0 hb r h) fun res s' hq => ?_
  match res, hq with
  | .error e, hq => exact hx pins H s e s' I hq
  | .ok (.ret u), hq => exact I.after hq
  | .ok .next, hq => exact False.elim hq
  | .ok .brk, hq => exact False.elim hq
  | .ok .cont, hq => exact False.elim hq
/-- where super() stands: the def at f of the class at D, self its first parameter -/
structure SupX (X : Cx) (slf : Str) (D : Addr) : Prop where
  ks : X.env.kindOf "super" = some .globalImplicit
  kc : X.env.kindOf "__class__" = some .free
  sl : X.env.kindOf slf = some .local
  n0 : X.N[0]? = some slf
  sup : X.mg "super" = none
  fn : ∃ (f : Addr) (oc : Value) (od : Option Addr) (fd : FuncData) (osl : Array (Option Value)) (ar : Arg), X.env.func = some f ∧ X.K.lookup f = some ⟨oc, od, .func fd, osl⟩ ∧ (fd.params.posonlyargs ++ fd.params.args).head? = some ar ∧ ar.arg = slf
  code : ∃ (cda : Addr) (oc : Value) (od : Option Addr) (vs : Array Value) (osl : Array (Option Value)) (file : Str) (tf : Tok), X.env.code = .ref cda ∧ X.K.lookup cda = some ⟨oc, od, .fields vs, osl⟩ ∧ vs[2]? = some (.str file tf) ∧ ((X.prog.main.file : Str) == file) = true
  top : (X.prog.main.scope.names.lookup ("super" : Str)).isSome = false
  cell : ∃ (cc : Addr) (oc : Value) (od : Option Addr) (osl : Array (Option Value)), X.env.cells.lookup ("__class__" : Str) = some cc ∧ X.K.lookup cc = some ⟨oc, od, .cell (some (.ref D)), osl⟩
  cls : ∃ cd, PySem.W.clsIn X.K D = some cd
/-- what an instance's class must have: above the class at D, the name is the def at g -/
structure SupC (K : PySem.W.Frag) (C D : Addr) (m : Str) (g : Addr) : Prop where
  sub : PySem.W.mroIn K C (.ref D) = some true
  at_ : PySem.W.ks_superIn K C D m = some (some (.ref g))
  ty : PySem.W.typeIn K (.ref g) = some (.type "function")
  fi : PySem.W.fnIn K g = true
  opq : PySem.W.nsIn K cStatics "thirdparty.any" = some none
section
variable {Y : WX} {X : Cx} {k np n : Nat} {ks : List Str} {slf m : Str} {D : Addr} {body : List Stmt} {p0 p1 apos pos : Pos} {e : Expr} {es : List Expr} {kws : List Keyword} {t tk : TA} {pins : List (Addr × Obj)} {σ : L2.St} {H : Hp} {s : Shared} {Q : VK}
/-- the object that super() gives, then its method: a bound one, pinned -/
theorem sup_base {a C dx : Addr} {fs : List (Str × V)} {whole : Sem Value} {R : Value → Shared → Prop} (S : SupX X slf D) (I : Inv X pins σ H s) (h0 : σ[0]? = some (some (.ref a))) (ha : H a = some (.ins C dx fs)) (hsub : PySem.W.mroIn X.K C (.ref D) = some true) (hm : (m == ("__class__" : Str)) = false)
    (h : ∀ so h', (∀ b o, s.heap.get? b = some o → h'.get? b = some o) → h'.get? so = some (PySem.W.ks_superObj D a C) → R (.ref so) { s with heap := h' }) :
    _root_.PySem.wpAt (model X.prog X.w) X.A (.func body X.env) (attributeBase (.Call (.Name "super" p0) [] [] p1) m X.env whole) R X.xe s := by
  obtain ⟨f, oc, od, fd, osl, ar, e1, e2, e3, e4⟩ := S.fn
  obtain ⟨cda, occ, odc, vs, oslc, file, tf, c1, c2, c3, c4⟩ := S.code
  obtain ⟨cc, oce, ode, osle, d1, d2⟩ := S.cell
  obtain ⟨cd, hD⟩ := S.cls
  have KX := I.kIn
  obtain ⟨oD, hD1, hD2⟩ : ∃ oD, s.heap.get? D = some oD ∧ oD.data = .cls cd := by
    unfold PySem.W.clsIn at hD
    split at hD
    · rename_i q1 q2 q3 q4 ho
      cases hD
      exact ⟨_, KX _ _ ho, rfl⟩
    · cases hD
  obtain ⟨mA, O, _⟩ := ins_get I.hok ha
  obtain ⟨oi, J, _⟩ := O.look
  obtain ⟨ml, hn, hlk⟩ := id I.loc
  obtain ⟨u, ru, hu⟩ := hlk 0 slf _ S.n0 h0 (.inl S.sl)
  obtain rfl : u = Value.ref a := ru
  have hv : ml slf = some (.ref a) := by
    rcases hu with ⟨_, hu⟩ | ⟨z, _⟩
    · exact hu
    · rw [S.sl] at z
      rcases z with z | z <;> cases z
  obtain ⟨mb, b1, b2⟩ := I.mod.blt
  refine PySem.ks_wpAt_super_base (env := X.env) S.ks S.kc hm e1 (KX _ _ e2) rfl e3 c1 (KX _ _ c2) rfl c3 c4 S.top ?_
  refine PySem.W.ks_loadName_global I.ok.kind S.ks (Calls.loadGlobal_builtin (by rw [I.ok.glob]; exact I.mod.glob.keeps I.bk) S.sup (by rw [I.ok.blt]; exact b1.keeps I.bk) ((b2 "super" (by decide)).trans PyProof.Rows.Boot.«super») ⟨rfl, ?_⟩)
  refine wpAny_loadName_free I.ok.kind S.kc d1 ⟨_, KX _ _ d2, rfl⟩ ?_
  rw [e4]
  refine wpAny_loadName_local I.ok.kind S.sl hn hv ?_
  obtain ⟨hh, gg, dd, tt, os⟩ := s
  refine PySem.ks_wpAny_isType_cls hD1 hD2 ⟨rfl, ?_⟩
  refine PySem.ks_wpAny_call_super hD1 hD2 J.at_ J.cls (fun c z => ?_) (PySem.W.looks_mroIn KX hsub) (fun h' q1 q2 => ?_)
  · have := J.no
    unfold PySem.W.notCls at this
    rw [z] at this
    exact Bool.noConfusion this
  · exact h _ h' q2 q1
/-- super().m(e, .., k = v, ..) -/
def tSupG (X : Cx) (Y : WX) (k : Nat) (D : Addr) (m : Str) (np n : Nat) (ks : List Str) (t tk : TA) : TE := fun σ H Q => ∃ a C dx fs g mf, σ[0]? = some (some (.ref a)) ∧ H a = some (.ins C dx fs) ∧ SupC X.K C D m g ∧ Ent X.prog X.w X.K X.mg X.base k g np (n + 1) ks mf ∧
  t σ H fun vs H1 => tk σ H1 fun zs H2 => vs.length = n ∧ zs.length = ks.length ∧ spM X.K np mf (.ref a :: (vs ++ zs)) H2 Q (WE Y σ)
/-- an expression of such a def's first statement -/
def PEA (X : Cx) (body : List Stmt) (e : Expr) (t : TE) : Prop := ∀ (pins : List (Addr × Obj)) (s : Shared) (σ : L2.St) (H : Hp) (Q : VK), Inv X pins σ H s → t σ H Q → _root_.PySem.wpAt (model X.prog X.w) X.A (.func body X.env) (eval e X.env) (EP X pins σ Q) X.xe s
theorem sup_meth {so a C dx : Addr} {fs : List (Str × V)} {g : Addr} {pl : Sem Bool} {R : Value × List Value → Shared → Prop} (I : Inv X pins σ H s) (hso : s.heap.get? so = some (PySem.W.ks_superObj D a C)) (ha : H a = some (.ins C dx fs)) (c : SupC X.K C D m g) (hm : (m == ("__class__" : Str)) = false)
    (h : ∀ s', Inv X ((s.heap.objs.size, PySem.W.methodObj (.ref g) (.ref a)) :: pins) σ H s' → R (.ref s.heap.objs.size, []) s') : wpAny (model X.prog X.w) X.A (getMethod (.ref so) m pl) R X.xe s := by
  have KX := I.kIn
  obtain ⟨mA, O, _⟩ := ins_get I.hok ha
  obtain ⟨oi, J, _⟩ := O.look
  have at_ := c.at_
  obtain ⟨hh, gg, dd, tt, os⟩ := s
  cases hc : PySem.W.clsIn X.K C with
  | none => unfold PySem.W.ks_superIn at at_; rw [hc] at at_; cases at_
  | some cd =>
    unfold PySem.W.ks_superIn at at_
    rw [hc] at at_
    obtain ⟨og, hog, hogc⟩ : ∃ og, hh.get? g = some og ∧ og.cls = .type "function" := by
      have ty : (X.K.lookup g).map (·.cls) = some (.type "function") := c.ty
      cases z : X.K.lookup g with
      | none => rw [z] at ty; cases ty
      | some og => rw [z] at ty; exact ⟨og, KX _ _ z, Option.some.inj ty⟩
    refine PySem.ks_wpAny_getMethod_super hso (PySem.W.looks_opaque KX c.opq) (l₀ := cd.mro) ?_ rfl KX at_ hog hogc (PySem.W.ks_ne KX J hc) hm ?_
    · exact fun A Q E s k q => wpAny_bind ((PySem.W.looks_clsIn KX hc) A _ E s k (wpAny_pure q))
    · exact h _ (met_new I)
theorem pea_sup {pl : Sem Bool} (S : SupX X slf D) (hgd : X.A.guards = some []) (hr : Room k X.A) (tY : Takes X Y) (ha : PA X (e :: es) t) (hkw : PK X kws tk) (hm : (m == ("__class__" : Str)) = false := by decide) (hall : (backToKw pos (keywordEach kws X.env)).all (·.1.isSome) = true := by rfl) (hks : (backToKw pos (keywordEach kws X.env)).filterMap (·.1) = ks := by rfl)
    (hst : starEach (e :: es) X.env = (false, eval e X.env) :: starEach es X.env := by rfl)
    (ht : eval (.Call (.Attribute (.Call (.Name "super" p0) [] [] p1) m apos) (e :: es) kws pos) X.env = (do
      let ov ← attributeBase (.Call (.Name "super" p0) [] [] p1) m X.env (eval (.Call (.Name "super" p0) [] [] p1) X.env)
      standAt apos.atName
      let (f, first) ← holding [ov] (getMethod ov m pl)
      callWith pos f first (backTo pos (starEach (e :: es) X.env)) (backToKw pos (keywordEach kws X.env))) := by rfl) :
    PEA X body (.Call (.Attribute (.Call (.Name "super" p0) [] [] p1) m apos) (e :: es) kws pos) (tSupG X Y k D m np n ks t tk) := by
  intro pins s σ H Q I h
  obtain ⟨a, C, dx, fs, g, mf, h0, hH, c, F, q⟩ := h
  obtain ⟨fd, ps, hnp, G, hb⟩ := F.ex
  rw [ht]
  refine _root_.PySem.wpAt_bind (sup_base S I h0 hH c.sub hm fun so h' keep hso => ?_)
  have I1 : Inv X pins σ H { s with heap := h' } := I.kept (t' := s.toks) keep
  refine _root_.PySem.wpAt_of_wpAny (wpAny_bind (wpAny_standAt (wpAny_bind (wpAny_holding (sup_meth I1 hso hH c hm fun s2 I2 => ?_)))))
  refine callWith_any (P := fun h => PySem.W.MethP X.K _ g (.ref a) h) (first := []) (fun h z => PySem.W.keeps_M c.fi h z) (PyProof.Rows.evalArgs_kw2 hall (thn (ha.run pos _ s2 σ H _ I2 q) ?_) hst)
  rintro us s3 ⟨vs, H3, I3, r, q3⟩
  refine thn (hkw.run pos _ s3 σ H3 _ I3 q3) ?_
  rintro ws s4 ⟨zs, H4, I4, rz, l1, l2, q4⟩
  rw [hks]
  refine ⟨⟨pin_at I4, I4.kIn⟩, ?_⟩
  have ln : (Value.ref a :: us).length = n + 1 := by rw [List.length_cons, ← r.length, l1]
  have rr : Vals (V.ref a :: vs) (Value.ref a :: us) := .cons rfl r
  have go := run_codeG G hgd hr (passAt tY σ) I4 (hb.to s4 (Value.ref a :: us) ws I4.kIn ln (rz.length.symm.trans l2)) (hb.rel rr rz) q4
  refine wpAny_mono (wpAny_call (PySem.W.method_call (pin_at I4) go)) (fun _ _ y => unpinE y) fun _ _ y => y
end
end Dn
/-! Ob8: defs whose first statement asks super(). -/
namespace Dn
open PySem L2 ClX NdefX PySem.Spec PyProof.Rows
section
variable {Y : WX} {X : Cx} {k np n i : Nat} {ks : List Str} {slf m x : Str} {D : Addr} {body rest : List Stmt} {p0 p1 apos pos px : Pos} {e l r : Expr} {es : List Expr} {kws : List Keyword} {t tk : TA} {te ta tb : TE} {st : Stmt} {ts us : TS} {op : Operator} {ro : R2}
/-- a statement of such a def, the first one -/
def PSA (X : Cx) (body : List Stmt) (st : Stmt) (t : TS) : Prop := ∀ (pins : List (Addr × Obj)) (s : Shared) (σ : L2.St) (H : Hp) (D : Ends), Inv X pins σ H s → t D σ H → _root_.PySem.wpAt (model X.prog X.w) X.A (.func body X.env) (exec st X.env) (SP X pins D) X.xe s
theorem psa_ret (he : PEA X body e te) : PSA X body (.Return (some e) pos) (tRet te) := fun pins s σ H D I h =>
  PySem.ks_wpAt_Return_some (PySem.ks_wpAt_mono (he pins s σ H _ I h) (fun v s1 ⟨xx, H1, I1, r1, q1⟩ => ⟨xx, σ, H1, I1, r1, q1⟩) fun _ _ z => z)
theorem psa_expr (he : PEA X body e te) (hi : interactive X.env = false := by rfl) (hs : swapsWith e none pos.line X.env = pure false := by rfl) : PSA X body (.Expr e pos) (tDrop te) := fun pins s σ H D I h =>
  PySem.ks_wpAt_Expr_any (PySem.ks_wpAt_mono (he pins s σ H _ I h) (fun v s1 ⟨xx, H1, I1, r1, q1⟩ => ⟨σ, H1, I1, q1⟩) fun _ _ z => z) hi hs
def PSSA (X : Cx) (body blk : List Stmt) (t : TS) : Prop := ∀ (pins : List (Addr × Obj)) (s : Shared) (σ : L2.St) (H : Hp) (D : Ends), Inv X pins σ H s → t D σ H → _root_.PySem.wpAt (model X.prog X.w) X.A (.func body X.env) (execs blk X.env) (SP X pins D) X.xe s
theorem pssa_cons (h1 : PSA X body st ts) (h2 : PSs X rest us) : PSSA X body (st :: rest) (tSeq ts us) := fun pins s σ H D I h => by
  refine PySem.ks_wpAt_execs_cons (PySem.ks_wpAt_mono (h1 pins s σ H { D with nx := us D } I h) (fun f s1 q => ?_) fun _ _ z => z)
  cases f with
  | next =>
    obtain ⟨σ', H', I', q⟩ := q
    exact _root_.PySem.wpAt_of_wpAny (h2.run pins s1 σ' H' D I' q)
  | ret v => exact q
  | brk => exact q
  | cont => exact q
end
/-! ### the def -/
/-- the names of such a def: its parameters, then __class__ -/
abbrev nfOf (x qual : Str) (st : Stmt) (cc cda : Addr) : NF := ⟨x, qual, defArgs st, defBody st, defScope st, [("__class__", cc)], cda⟩
/-- a def that stands in the module with the cell of its class -/
structure FunS (K : PySem.W.Frag) (x qual : Str) (st : Stmt) (f : Addr) (fd : FuncData) (cc cda : Addr) : Prop where
  ex : ∃ (oc : Value) (od : Option Addr) (dV kV doc pm : Value) (an : Option Addr) (ct : Value) (osl : Array (Option Value)),
    fd = PySem.W.fnX x qual (defArgs st) (defBody st) (defScope st) [("__class__", cc)] dV kV doc pm an (.ref cda) ct ∧ K.lookup f = some ⟨oc, od, .func fd, osl⟩ ∧ PySem.W.codeIn K (.ref cda) qual = true
  cell : ∃ (oc : Value) (od : Option Addr) (v : Option Value) (osl : Array (Option Value)), K.lookup cc = some ⟨oc, od, .cell v, osl⟩
abbrev supX (P : Program) (w : World) (K : PySem.W.Frag) (mg : Str → Option Value) (base : Heap) (N : List Str) (x qual : Str) (st : Stmt) (cc cda f : Addr) (A : Around) (outer : List PySem.Env) (s : Shared) (H : Hp) (E : XK) : Cx := ncx (L2.CX P w) P w K mg base N (nfOf x qual st cc cda) f A outer s H E
theorem fn_ofS {P : Program} {w : World} {K : PySem.W.Frag} {mg : Str → Option Value} {base : Heap} {k : Nat} {f cc cda : Addr} {fd : FuncData} {x qual : Str} {st : Stmt} {N ps : List Str} {sp : Sp}
    (F : FunS K x qual st f fd cc cda) (S : NScope N ps ["__class__"] (defScope st)) (len : ∀ vs H Q E, sp vs H Q E → vs.length = ps.length)
    (hbody : ∀ (A : Around) (outer : List PySem.Env) (s : Shared) (H : Hp) (vs : List V) (Q : VK) (E : XK), (supX P w K mg base N x qual st cc cda f A outer s H E).A.guards = some [] → Room k (supX P w K mg base N x qual st cc cda f A outer s H E).A → sp vs H Q E →
      ∃ t, PSSA (supX P w K mg base N x qual st cc cda f A outer s H E) (defBody st) (defBody st) t ∧ t { nx := fun _ H' => Q .non H', rt := Q } (L2.start N vs) H) :
    FnG P w K mg base (L2.CX P w) (k + 1) f fd ps sp := by
  refine ⟨len, fun A outer s H args us vs Q E hgd hr e0 hb r hsp => ?_⟩
  have hl := len _ _ _ _ hsp
  obtain ⟨oc, od, dV, kV, doc, pm, an, ct, osl, rfl, lk, hcd⟩ := F.ex
  obtain ⟨occ, odc, vc, oslc, lkc⟩ := F.cell
  have KX : K.In s.heap := e0.mod.kin.keeps fun b o e => (e0.bs b o e).1
  have lim : s.heap.NoLimit := e0.mod.nolimit.keeps fun b o e => (e0.bs b o e).1
  have hcc : H cc = none := (e0.bs cc _ (e0.mod.kin _ _ lkc)).2
  refine PySem.ks_codeAny_call_defAt (binds := ps.zip us) hr.depth (KX _ _ lk) rfl lim (PySem.W.codeRec_of KX hcd) rfl hb S.nocell (fun ⟨n, _⟩ hy => S.par n (List.of_mem_zip hy).1) (fun h₁ hns kp => ?_) S.co S.gen S.kind
  have CA : CellsAt [("__class__", cc)] ["__class__"] [none] s.heap H := by
    have one : ∀ {y : Str} {c : Addr}, ([(("__class__" : Str), cc)] : List (Str × Addr)).lookup y = some c → y = "__class__" ∧ c = cc := fun {y c} z => by
      rw [List.lookup] at z
      split at z
      · rename_i hy
        exact ⟨beq_iff_eq.mp hy, (Option.some.inj z).symm⟩
      · cases z
    refine ⟨rfl, fun y c z => ?_, fun y z c h1 h2 => (one h1).1.trans (one h2).1.symm, fun i y hi => ?_⟩
    · obtain ⟨_, rfl⟩ := one z
      exact ⟨hcc, vc, _, KX _ _ lkc, rfl⟩
    · cases i with
      | zero =>
        cases hi
        exact ⟨cc, by simp [List.lookup], fun v z => by cases z⟩
      | succ i => cases hi
  have I : Inv (supX P w K mg base N x qual st cc cda f A outer s H E) [] (startF N vs [none]) H { s with heap := h₁, toks := s.toks + (ps.zip us).length } := inv_startN S hr.hd e0 hl r CA hns kp
  have e2 : startF N vs [none] = L2.start N vs := by
    have hpl : ps.length + 1 ≤ N.length := by
      have q := congrArg List.length S.pre
      rw [List.length_take, List.length_append] at q
      have q : min (ps.length + 1) N.length = ps.length + 1 := q
      omega
    unfold startF L2.start
    have e3 : N.length - vs.length = (N.length - vs.length - [(none : Option V)].length) + 1 := by
      show N.length - vs.length = N.length - vs.length - 1 + 1
      omega
    rw [e3, List.replicate_succ]
    rfl
  rw [e2] at I
  obtain ⟨t, ht, hq⟩ := hbody A outer s H vs Q E hgd (hr.deeper _) hsp
  have fin : ∀ {σ' : L2.St} {H' : Hp} {v : V} {u : Value} {s' : Shared}, Inv (supX P w K mg base N x qual st cc cda f A outer s H E) [] σ' H' s' → RelV v u → Q v H' → CE outer P w H s Q u s' := fun {σ' H' v u s'} J rv q => ⟨v, H', J.os, J.bare, J.base, J.hok, rv, q⟩
  refine PySem.ks_wpAt_mono (ht [] _ (L2.start N vs) H _ I hq) (fun fl s' hs => ?_) fun e s' hs => hs
  match fl, hs with
  | .ret u, ⟨v, σ', H', J, rv, q⟩ => exact fin J rv q
  | .next, ⟨σ', H', J, q⟩ => exact fin (v := V.non) (u := Value.none) J rfl q
  | .brk, ⟨_, _, _, q⟩ => exact False.elim q
  | .cont, ⟨_, _, _, q⟩ => exact False.elim q
end Dn
/-! Ob9: super() in short; instances called. -/
namespace Dn
open PySem L2 ClX NdefX PySem.Spec PyProof.Rows
/-- what super().m is, by the class of self -/
structure SupTab (P : Program) (w : World) (K : PySem.W.Frag) (mg : Str → Option Value) (base : Heap) (k : Nat) (D : Addr) (m : Str) (np n : Nat) (ks : List Str) (tab : List (Str × Fn)) : Prop where
  ok : ∀ c mf, tab.lookup c = some mf → ∃ C g, ClsAt K c C ∧ SupC K C D m g ∧ Ent P w K mg base k g np n ks mf
def supM (tab : List (Str × Fn)) (n : Nat) (r : M (List PV)) : M PV := fun (s : S) => match s.env[0]? with
  | some (some (SV.val d)) => (match insOf s d with
    | some (c, _, _) => (match tab.lookup c with
      | some f => bnd r (fun ds => runM f n (d :: ds)) s
      | none => .stk)
    | none => .stk)
  | _ => .stk
section
variable {Y : WX} {X : Cx} {k j np n i : Nat} {ks : List Str} {slf m x : Str} {D : Addr} {body rest : List Stmt} {p0 p1 apos pos px : Pos} {e l r : Expr} {es : List Expr} {kws : List Keyword} {ca cb : M (List PV)} {ce cl cr : M PV} {tab : List (Str × Fn)} {st : Stmt} {σ : L2.St} {H : Hp} {Q : VK} {fa fb : M Fl}
theorem den_sup (T : SupTab X.prog X.w X.K X.mg X.base k D m np (i + 1) ks tab) (h : den X.K Y (supM tab n (appA i ks.length ca cb)) σ H Q) : tSupG X Y k D m np i ks (denA X.K Y ca) (denA X.K Y cb) σ H Q := by
  obtain ⟨C, W, s, at', p⟩ := h
  unfold supM at p
  split at p
  · rename_i d he
    obtain ⟨v, hv, rv⟩ := at'.val 0 d he
    split at p
    · rename_i c kk vv e
      split at p
      · rename_i mf hmf
        obtain ⟨a, Cc, dx, us, rfl, h1, h2, ll, ru⟩ := insOf_rep at' rv e
        obtain ⟨C2, g, k1, k2, F⟩ := T.ok c mf hmf
        cases cls_uniq h1 k1
        refine ⟨a, _, dx, _, g, mf, hv, h2, k2, F, ?_⟩
        refine den_appA at' (f := fun ds s => runM mf n (d :: ds) s) p fun ds es s2 W2 H2 l2 a2 p2 us ws r1 r2 l1 l2' => ?_
        exact ⟨l1, l2', sp_run F.len a2 (.cons (rv.mono l2) (r1.append r2)) p2⟩
      · exact p.elim
    · exact p.elim
  · exact p.elim
theorem pea_imp {te te' : TE} (h : PEA X body e te) (f : ∀ σ H Q, te' σ H Q → te σ H Q) : PEA X body e te' := fun pins s σ H Q I q => h pins s σ H Q I (f σ H Q q)
theorem psa_imp {t t' : TS} (h : PSA X body st t) (f : ∀ D σ H, t' D σ H → t D σ H) : PSA X body st t' := fun pins s σ H D I q => h pins s σ H D I (f D σ H q)
theorem asup {pl : Sem Bool} (n : Nat) (T : SupTab X.prog X.w X.K X.mg X.base j D m np (i + 1) ks tab) (S : SupX X slf D) (hgd : X.A.guards = some []) (hr : Room k X.A) (tY : Takes X Y) (hjk : j ≤ k) (ha : PA X (e :: es) (denA X.K Y ca)) (hkw : PK X kws (denA X.K Y cb)) (hm : (m == ("__class__" : Str)) = false := by decide) (hall : (backToKw pos (keywordEach kws X.env)).all (·.1.isSome) = true := by rfl) (hks : (backToKw pos (keywordEach kws X.env)).filterMap (·.1) = ks := by rfl)
    (hst : starEach (e :: es) X.env = (false, eval e X.env) :: starEach es X.env := by rfl)
    (ht : eval (.Call (.Attribute (.Call (.Name "super" p0) [] [] p1) m apos) (e :: es) kws pos) X.env = (do
      let ov ← attributeBase (.Call (.Name "super" p0) [] [] p1) m X.env (eval (.Call (.Name "super" p0) [] [] p1) X.env)
      standAt apos.atName
      let (f, first) ← holding [ov] (getMethod ov m pl)
      callWith pos f first (backTo pos (starEach (e :: es) X.env)) (backToKw pos (keywordEach kws X.env))) := by rfl) :
    PEA X body (.Call (.Attribute (.Call (.Name "super" p0) [] [] p1) m apos) (e :: es) kws pos) (den X.K Y (supM tab n (appA i ks.length ca cb))) := pea_imp (pea_sup S hgd (hr.mono hjk) tY ha hkw hm hall hks hst ht) fun _ _ _ => den_sup T
theorem aret (he : PEA X body e (den X.K Y ce)) : PSA X body (.Return (some e) pos) (denS X.K Y (retM ce)) := psa_imp (psa_ret he) fun _ _ _ => den_return
theorem aexpr (he : PEA X body e (den X.K Y ce)) (hi : interactive X.env = false := by rfl) (hs : swapsWith e none pos.line X.env = pure false := by rfl) : PSA X body (.Expr e pos) (denS X.K Y (dropM ce)) := psa_imp (psa_expr he hi hs) fun _ _ _ => den_drop
theorem pssa_imp {blk : List Stmt} {t t' : TS} (h : PSSA X body blk t) (f : ∀ D σ H, t' D σ H → t D σ H) : PSSA X body blk t' := fun pins s σ H D I q => h pins s σ H D I (f D σ H q)
theorem acons1 (h1 : PSA X body st (denS X.K Y fa)) (h2 : PSs X rest (denS X.K Y fb)) : PSSA X body (st :: rest) (denS X.K Y (seqM fa fb)) := pssa_imp (pssa_cons h1 h2) fun _ _ _ => den_seq
end
/-- THE RULE: such a def keeps the promise of its computation -/
theorem fn_denS {P : Program} {w : World} {K : PySem.W.Frag} {mg : Str → Option Value} {base : Heap} {k : Nat} {f cc cda : Addr} {fd : FuncData} {x qual : Str} {st : Stmt} {N ps : List Str} {body : Nat → M Fl}
    (F : FunS K x qual st f fd cc cda) (S : NScope N ps ["__class__"] (defScope st)) (hN : ps.length ≤ N.length)
    (hbody : ∀ (A : Around) (outer : List PySem.Env) (s : Shared) (H : Hp) (E : XK) (n : Nat), (supX P w K mg base N x qual st cc cda f A outer s H E).A.guards = some [] → Room k (supX P w K mg base N x qual st cc cda f A outer s H E).A →
      Takes (supX P w K mg base N x qual st cc cda f A outer s H E) (yE E) → PassesOwn (model P w) (supX P w K mg base N x qual st cc cda f A outer s H E).A (supX P w K mg base N x qual st cc cda f A outer s H E).env (supX P w K mg base N x qual st cc cda f A outer s H E).xe →
      PSSA (supX P w K mg base N x qual st cc cda f A outer s H E) (defBody st) (defBody st) (denS K (yE E) (body n))) :
    FnG P w K mg base (L2.CX P w) (k + 1) f fd ps (spM K ps.length (fnM ps.length N.length body)) := by
  refine fn_ofS F S (fun vs H Q E h => h.1) fun A outer s H vs Q E hgd hr hsp => ?_
  obtain ⟨n, h⟩ := start_den hN hsp
  exact ⟨_, hbody A outer s H E n hgd hr (takes_of rfl rfl rfl rfl) (passes_of rfl), h⟩
end Dn
/-! Ex1: own exception classes of one field, over any built-in class; raised. -/
namespace Dn
open PySem L2 PySem.Spec PyProof.Rows
/-- the first attribute stored on an exception, whatever built-in class stands above its own -/
theorem osa_any {prog : Program} {w : World} {A : Around} {R : Result → Shared → Prop} {hp : Heap} {g : Array GenState} {d : Drawn} {t : Nat} {os : OsState} {K : W.Frag} {name : Str} {tk : Tok} {v : Value} {x C : Addr} {fv : Array Value} {cd : ClassData} {bm : List Value}
    (X : K.In hp) (hx : hp.get? x = some { cls := .ref C, data := .fields fv }) (hcd : W.clsIn K C = some cd) (hm : cd.mro = .ref C :: bm) (hpass : ∀ self, refuseLoop self "__setattr__" bm = pure ()) (hob : bm.contains (.type "object") = true) (hh : cd.hasDict = true) (ha : W.findIn K (.ref C) name = some none)
    (hq : ∀ h' tk' dx, (∀ b o, b ≠ x → hp.get? b = some o → h'.get? b = some o) → hp.objs.size ≤ dx → dx ≠ x → h'.get? x = some { cls := .ref C, dict := some dx, data := .fields fv } →
      h'.Ns1 dx (fun y => if y = name then some v else none) → R (.ok (.ret .none)) ⟨h', g, d, tk', os⟩) :
    codeAny (model prog w) A (.call (.builtin "object.__setattr__") ⟨[.ref x, .str name tk, v], []⟩) R ⟨hp, g, d, t, os⟩ := by
  have I : W.InstAt hp x { cls := .ref C, data := .fields fv } C none := ⟨hx, rfl, rfl, trivial⟩
  have SF := F.store_object
  have far : x ≠ hp.objs.size := Nat.ne_of_lt (Heap.lt_size hx)
  have isob : W.mroIn K C (.type "object") = some true := by
    unfold W.mroIn
    rw [hcd, Option.bind_some, hm, if_neg (show ¬ ((Value.ref C :: bm).isEmpty = true) from Bool.false_ne_true), List.contains_cons, hob, Bool.or_true]
  have sub : W.Looks (model prog w) hp (isInstance (.ref x) (.type "object")) true := I.type.andThen (W.looks_mroIn X isob)
  refine codeAny_call_builtin SF.slot.plain SF.entry (@W.check_slot (model prog w) _ _ ⟨hp, g, d, t, os⟩ "object.__setattr__" "object" "__setattr__" (.ref x) [.str name tk, v] [] _ SF.kind SF.split sub (SF.args (.ref x) (.str name tk) v) ?_)
  have hmr : W.Looks (model prog w) hp (mroOf (.ref C)) cd.mro := (W.looks_clsIn X hcd).andThen .now
  have lst : W.Looks (model prog w) hp (Builtin.ObjectAttr.storeTaker? none) none := .now
  have hcls : W.Looks (model prog w) hp (classData C) cd := W.looks_clsIn X hcd
  have pass : refuseLoop (.ref x) "__setattr__" cd.mro = pure () := by rw [hm, refuseLoop_ref]; exact hpass _
  rw [W.osa_eq, refuse_eq]
  refine wpAny_bind (wpAny_bind (I.type.at (wpAny_bind (hmr.at ?_))))
  rw [pass]
  refine wpAny_pure (wpAny_bind (I.type.at (wpAny_bind ((W.looks_findIn X ha).at (wpAny_bind (lst.at ?_))))))
  show wpAny _ _ (Builtin.ObjectAttr.storeInOwnDict (.ref x) (.ref C) (.str name tk) name v false) _ _ _
  obtain ⟨nm, bs, mro, ns, qn, hd, sn, sb, ab, col, del⟩ := cd
  dsimp only at hh
  subst hh
  unfold Builtin.ObjectAttr.storeInOwnDict Builtin.ObjectAttr.ownDictForStores
  repeat (first | with_reducible refine PySem.HandSPX.store_in_new ?_ ?_ | with_reducible refine wpAny_loadPart_at hx ?_ | with_reducible refine hcls.at ?_ | wp_step)
  · exact ⟨_, #[], _, (Heap.get?_update_ne _ _ _ _ far.symm).trans (Heap.get?_push_at rfl rfl), rfl, fun e he => absurd he (by simp), fun _ => rfl⟩
  · intro h' tk' hn' hs
    have up : (hp.push { cls := .type "dict", data := .dict #[] }).get? x = some { cls := .ref C, data := .fields fv } := Heap.get?_push_of_some _ hx
    refine hq h' tk' hp.objs.size (fun b o hb ho => ?_) (Nat.le_refl _) far.symm ?_ hn'
    · exact (hs.2 b (Nat.ne_of_lt (Heap.lt_size ho))).trans ((Heap.get?_update_ne _ _ _ _ hb).trans (Heap.get?_push_of_some _ ho))
    · exact (hs.2 x far).trans (Heap.get?_update_self _ up rfl)
/-- what is told of an own exception class over the built-in class B -/
structure OexB (K : PySem.W.Frag) (C : Addr) (B newId initId : String) (bm : List Value) : Prop where
  facts : ExcBaseFacts B newId initId bm
  cls : ∃ nm q N bs sn sub ab col dd k0 k1 k2 k3 k5, K.lookup C = some (excClassObj nm q C N bs bm true sn sub ab col dd k0 k1 k2 k3 k5 newId)
  pass : ∀ self, refuseLoop self "__setattr__" bm = pure ()
  obj : bm.contains (.type "object") = true
  sa : PySem.W.findIn K (.ref C) "__setattr__" = some (some (.builtin "object.__setattr__"))
  exC : PySem.W.subIn K (.ref C) (.type "BaseException") = some true
  tyC : PySem.W.typeIn K (.ref C) = some (.type "type")
  kC : PySem.W.keepIn K (.ref C) = true
section
variable {X : Cx} {pins : List (Addr × Obj)} {σ : L2.St} {H : Hp} {s : Shared} {a C dx : Addr} {f : Str} {y : V} {u : Value} {A : Around} {E : Value → Shared → Prop} {B newId initId : String} {bm : List Value}
theorem ostB {Q : Unit → Shared → Prop} (T : OexB X.K C B newId initId bm) (I : Inv X pins σ H s) (e : H a = some (exo a C none)) (hno : PySem.W.findIn X.K (.ref C) f = some none) (ry : RelV y u)
    (h : ∀ dx s', H dx = none → dx ≠ a → Inv X pins σ (upd (upd H dx (exd dx [(f, y)])) a (exo a C (some dx))) s' → Q () s') : wpAny (model X.prog X.w) A (setAttr (.ref a) f u) Q E s := by
  obtain ⟨nm, q, N, bs, sn, sub, ab, col, dd, k0, k1, k2, k3, k5, hC⟩ := T.cls
  have hcl : PySem.W.clsIn X.K C = some { name := nm, bases := bs, mro := .ref C :: bm, ns := N, qualname := q, hasDict := true, slotNames := sn, subclasses := sub, abstract := ab, collection := col, hasDel := false } := by
    unfold PySem.W.clsIn
    rw [hC] <;> rfl
  obtain ⟨t1, ho⟩ := exo_at I.hok e
  obtain ⟨hp, g, d, t, os⟩ := s
  refine PySem.W.set_plain I.kIn (ox := { cls := .ref C, dict := none, data := .fields #[.ref t1, .none, .none, .none, .bool false, .none] }) (od := none) ⟨ho, rfl, rfl, trivial⟩ T.sa ?_
  refine osa_any I.kIn ho hcl rfl T.pass T.obj rfl hno (fun h' tk' dx k dn dne hx hn => ?_)
  have free : H dx = none := I.hok.fresh dn
  have old : ∀ {b : Addr} {o : Obj}, hp.get? b = some o → b ≠ dx := fun {b o} q => Nat.ne_of_lt (Nat.lt_of_lt_of_le (Heap.lt_size q) dn)
  have nota : ∀ {b : Addr}, H b = none → b ≠ a := fun {b} n z => by
    rw [z, e] at n
    cases n
  have U : Un X.fs [] H (upd (upd H dx (exd dx [(f, y)])) a (exo a C (some dx))) hp h' := by
    refine ⟨fun b o q n _ _ => k b o (nota n) q, fun b o q n _ _ => ⟨o.slots, k b o (nota n) q⟩, fun b o q n _ => ?_, fun b o q _ => ?_, fun b xs q => ?_, fun b o v q => ?_, fun b ps q => ⟨#[], ?_⟩⟩
    · rw [upd_ne (nota n), upd_ne (old q)]
      exact n
    · by_cases hb : b = a
      · exact ⟨_, by rw [hb]; exact hx⟩
      · exact ⟨o, k b o hb q⟩
    · rw [upd_ne (at_ne e q exo_tup), upd_ne (ne_of_none q free)]
      exact q
    · rw [upd_ne (at_ne e q exo_frz), upd_ne (ne_of_none q free)]
      exact q
    · rw [upd_ne (at_ne e q exo_tbl), upd_ne (ne_of_none q free), q]
      simp
  refine h dx _ free dne (I.un (t' := tk') U fun b o q => ?_)
  by_cases hb : b = a
  · subst hb
    rw [upd_same] at q
    cases q
    exact exo_ok hx
  · rw [upd_ne hb] at q
    by_cases hd : b = dx
    · subst hd
      rw [upd_same] at q
      cases q
      exact exd_ok hn (relO_put (fs := []) ry fun g => True.intro)
    · rw [upd_ne hd] at q
      refine (I.hok b o q).stay (fun c v hc z => k c v ?_ z) (fun c hc => ?_) (fun c xs hc => ?_)
      · rcases hc with hc | hc
        · rw [hc]
          exact hb
        · exact at_ne e hc exo_own
      · rw [upd_ne (at_ne e hc exo_own), upd_ne (ne_of_none hc free)]
        exact hc
      · rw [upd_ne (at_ne e hc exo_tup), upd_ne (ne_of_none hc free)]
        exact hc
/-- B.__init__(self, ..): nothing of it is told -/
theorem oinitB {us : List Value} {Q : Value → Shared → Prop} (T : OexB X.K C B newId initId bm) (I : Inv X pins σ H s) (e : H a = some (exo a C none)) (hl : us.length ≤ sizeLine) (h : ∀ s', Inv X pins σ H s' → Q .none s') :
    wpAny (model X.prog X.w) A (call (.builtin initId) (.ref a :: us)) Q E s := by
  obtain ⟨nm, q, N, bs, sn, sub, ab, col, dd, k0, k1, k2, k3, k5, hC⟩ := T.cls
  obtain ⟨t1, ho⟩ := exo_at I.hok e
  obtain ⟨hp, g, d, t, os⟩ := s
  refine wpAny_call (PySem.HandSPX.init_base T.facts (fun _ => rfl) (I.kIn _ _ hC) ho hl fun h' t2 k hx => ?_)
  have J := I.write (t' := t) (x := a) (e := a) (o := exo a C none) (by rw [e]; exact True.intro) (.inl rfl) k ⟨_, hx⟩ (exo_ok hx)
  have same : upd H a (exo a C none) = H := by
    funext b
    by_cases hb : b = a
    · rw [hb, upd_same, e]
    · rw [upd_ne hb]
  rw [same] at J
  exact h _ J
end
/-! ### the rules -/
def tBI (K : PySem.W.Frag) (B newId initId : String) (bm : List Value) (ta : TA) : TE := fun σ H Q => ta σ H fun vs H1 => ∃ (a C : Addr) (ws : List V), vs = .ref a :: ws ∧ ws.length ≤ 1000 ∧ OexB K C B newId initId bm ∧ H1 a = some (exo a C none) ∧ Q .non H1
def tOstB (K : PySem.W.Frag) (B newId initId : String) (bm : List Value) (f : Str) (to te : TE) : TS := fun D σ H => te σ H fun y H1 => to σ H1 fun x H2 => ∃ a C : Addr, x = .ref a ∧ OexB K C B newId initId bm ∧ PySem.W.findIn K (.ref C) f = some none ∧
  H2 a = some (exo a C none) ∧ ∀ dx, H2 dx = none → dx ≠ a → D.nx σ (upd (upd H2 dx (exd dx [(f, y)])) a (exo a C (some dx)))
section
variable {X : Cx} {o e : Expr} {es : List Expr} {to te : TE} {ta : TA} {f b : Str} {p p' p1 p2 pos : Pos} {B newId initId : String} {bm : List Value}
theorem pe_binit {pl : Sem Bool} (hg : Gl X b) (hm : X.mg b = none) (hv : bootBuiltins b = some (.type B)) (ht : typeOf (.type B) = pure (.type "type")) (hstub : Manifest.isStub B = false) (vV : PySem.W.findCls X.K (.type B) (.type "type") "__init__" = some (.val (.builtin initId))) (hhand : PySem.W.handedIn (.builtin initId) = true)
    (ha : PA X (e :: es) ta) (hn : b ≠ "__name__" := by decide) (hdb : (b == ("__debug__" : Str)) = false := by decide)
    (hc : eval (.Call (.Attribute (.Name b p1) "__init__" p2) (e :: es) [] pos) X.env = (do
      let ov ← eval (.Name b p1) X.env
      standAt p2.atName
      let (f, first) ← holding [ov] (getMethod ov "__init__" pl)
      callWith pos f first (backTo pos (starEach (e :: es) X.env)) (backToKw pos (keywordEach [] X.env))) := by rfl)
    (he : starEach (e :: es) X.env = (false, eval e X.env) :: starEach es X.env := by rfl) (hpl : (backTo pos (starEach es X.env)).any (·.1) = false := by rfl) :
    PE X (.Call (.Attribute (.Name b p1) "__init__" p2) (e :: es) [] pos) (tBI X.K B newId initId bm ta) := by
  refine ⟨fun pins s σ H Q I h => PySem.W.methodCall_KW (ld_blt I hg hm hv ?_ hn hdb) hc⟩
  obtain ⟨m, fr⟩ := I.fr
  refine PySem.W.method_type fr I.ok.mod.kin ht hstub vV hhand ?_
  show wpAny _ _ (callWith pos (Value.builtin initId) [] (backTo pos (starEach (e :: es) X.env)) []) _ _ _
  refine PyProof.Rows.callWith_method1 (thn (ha.run pos pins _ σ H _ (I.tok _) h) ?_) he hpl
  rintro us s1 ⟨vs, H1, I1, r1, a, C, ws, ev, hl, T, ea, q⟩
  subst ev
  cases r1 with
  | @cons _ u0 _ ur ra rw' =>
    obtain rfl : u0 = Value.ref a := ra
    exact oinitB T I1 ea (by rw [← Paired.length rw', sizeLine_eq]; omega) fun s' J => ⟨.non, H1, J, rfl, q⟩
theorem ps_ostB (ho : PE X o to) (he : PE X e te) (hs : swapsWith e (some (.Attribute o f p')) pos.line X.env = pure false := by rfl) : PS X (.Assign [.Attribute o f p'] e pos) (tOstB X.K B newId initId bm f to te) := by
  refine ⟨fun pins s σ H D I h => plainObj_wpAny_Assign_Attribute (thn (he.run pins s σ H _ I h) ?_) hs⟩
  rintro v s1 ⟨y, H1, I1, r1, q1⟩
  refine thn (ho.run pins s1 σ H1 _ I1 q1) ?_
  rintro u s2 ⟨x, H2, I2, r2, a, C, ex, T, hno, ea, q⟩
  subst ex
  obtain rfl : u = Value.ref a := r2
  exact ostB T I2 ea hno r1 fun dx s' n ne J => ⟨σ, _, J, q dx n ne⟩
/-- the promise of such an __init__ -/
def spX (C : Addr) (f : Str) : Sp := fun vs H Q _ => ∃ a y, vs = [.ref a, y] ∧ H a = some (exo a C none) ∧ ∀ dx, H dx = none → dx ≠ a → Q .non (upd (upd H dx (exd dx [(f, y)])) a (exo a C (some dx)))
end
end Dn
/-! Ex2: raise C(e); the def __init__ of such a class; try .. except C. -/
namespace Dn
open PySem L2 PySem.Spec PyProof.Rows
section
variable {X : Cx} {σ : L2.St} {H : Hp} {C fI : Addr} {k : Nat} {fd : FuncData} {ps : List Str} {f x : Str} {e : Expr} {es : List Expr} {ta : TA} {p pos : Pos} {B newId initId : String} {bm : List Value}
/-- C(e): an exception with one attribute -/
def tMkB (C : Addr) (f : Str) (ta : TA) : L2.St → Hp → XK → Prop := fun σ H Q => ta σ H fun vs H1 => ∃ y, vs = [y] ∧ ∀ dx, H1 dx = none → Q (.ref C) (some dx) (upd H1 dx (.xd [(f, y)]))
theorem pmk_B (T : OexB X.K C B newId initId bm) (iC : PySem.W.findIn X.K (.ref C) "__init__" = some (some (.ref fI))) (tI : PySem.W.typeIn X.K (.ref fI) = some (.type "function")) (F : FnG X.prog X.w X.K X.mg X.base (L2.CX X.prog X.w) k fI fd ps (spX C f)) (hgd : X.A.guards = some []) (hr : Room (k + 1) X.A)
    (hb : Binds X.K fd ps []) (hg : Gl X x) (hm : X.mg x = some (.ref C)) (ha : PA X (e :: es) ta) (hdb : (x == ("__debug__" : Str)) = false := by decide) (he : starEach (e :: es) X.env = (false, eval e X.env) :: starEach es X.env := by rfl) (hpl : (backTo pos (starEach es X.env)).any (·.1) = false := by rfl) :
    PMk X (.Call (.Name x p) (e :: es) [] pos) (tMkB C f ta) := by
  intro pins s σ H Q I h
  obtain ⟨nm, q, N, bs, sn, sub, ab, col, dd, k0, k1, k2, k3, k5, hC⟩ := T.cls
  refine wpAny_Call_Name_kw (ld_glob I hg hm ?_ hdb)
  refine PySem.W.callWith_K (h₀ := X.base) I.ok.mod.kin T.kC (thn (ha.run pos pins s σ H _ I h) ?_) he hpl
  rintro us s1 ⟨vs, H1, I1, r1, y, ev, q1⟩
  subst ev
  refine ⟨I1.kIn, ?_⟩
  show wpAny _ _ (call (.ref C) us) _ _ _
  obtain ⟨hp, g, dr, tk, os⟩ := s1
  have step : hp.objs.size ≤ hp.objs.size + 1 := Nat.le_succ _
  have free : H1 (hp.objs.size + 1) = none := I1.hok.fresh step
  have keep : ∀ b o, hp.get? b = some o → ((hp.push (PySem.W.kdv_tup us)).push (PySem.HandSPX.excO C hp.objs.size)).get? b = some o := fun b o e => Heap.get?_push_of_some _ (Heap.get?_push_of_some _ e)
  have there : ((hp.push (PySem.W.kdv_tup us)).push (PySem.HandSPX.excO C hp.objs.size)).get? (hp.objs.size + 1) = some (PySem.HandSPX.excO C hp.objs.size) := by heap_get
  have J : Inv X pins σ (upd H1 (hp.objs.size + 1) (exo (hp.objs.size + 1) C none)) ⟨(hp.push (PySem.W.kdv_tup us)).push (PySem.HandSPX.excO C hp.objs.size), g, dr, tk, os⟩ :=
    I1.laid (t' := tk) (a := hp.objs.size + 1) (o := exo (hp.objs.size + 1) C none) (h' := (hp.push (PySem.W.kdv_tup us)).push (PySem.HandSPX.excO C hp.objs.size)) keep step (exo_ok there)
  have rS : Vals [V.ref (hp.objs.size + 1), y] (Value.ref (hp.objs.size + 1) :: us) := .cons rfl r1
  have want : spX C f [V.ref (hp.objs.size + 1), y] (upd H1 (hp.objs.size + 1) (exo (hp.objs.size + 1) C none)) (fun v H2 => v = .non ∧ ∃ dx, H1 dx = none ∧ dx ≠ hp.objs.size + 1 ∧
      H2 = upd (upd (upd H1 (hp.objs.size + 1) (exo (hp.objs.size + 1) C none)) dx (exd dx [(f, y)])) (hp.objs.size + 1) (exo (hp.objs.size + 1) C (some dx))) (fun _ _ _ => False) :=
    ⟨_, y, rfl, upd_same, fun dx n ne => ⟨rfl, dx, by rw [upd_ne ne] at n; exact n, ne, rfl⟩⟩
  have hl : ((Value.ref (hp.objs.size + 1) :: us) ++ []).length = ps.length := by
    rw [List.append_nil, ← rS.length]
    exact F.len _ _ _ _ want
  have bd := hb _ (Value.ref (hp.objs.size + 1) :: us) J.kIn hl
  rw [List.append_nil] at bd
  have few : us.length ≤ sizeLine := by
    rw [← Paired.length r1]
    show 1 ≤ sizeLine
    decide
  have go := F.run _ X.stack _ _ ⟨Value.ref (hp.objs.size + 1) :: us, []⟩ _ _ _ (fun _ _ _ => False) (guards_under hgd) (hr.make C us []) (J.env0.make C us []) bd rS want
  refine wpAny_call (PySem.HandSPX.call_own T.facts (fun _ => rfl) (I1.kIn _ _ hC) (PySem.W.looks_findIn I1.kIn iC) (fun self => PySem.W.bind_fn I1.kIn self tI) few (codeAny_mono go fun res s' hq => ?_))
  match res, hq with
  | .error er, hq =>
    obtain ⟨_, _, _, _, _, _, _, _, _, _, _, _, w⟩ := hq
    exact w.elim
  | .ok (.ret u), hq =>
    obtain ⟨v, H2, os2, bare2, un2, hok2, rv, ev, dx, n1, ne, eH⟩ := hq
    subst ev
    subst eH
    obtain ⟨h2, g2, d2, t2, os'⟩ := s'
    refine ⟨rv, mk_end (fs := [(f, y)]) (d := dx) (raises_own T.exC T.tyC) I1 step keep un2 hok2 os2 bare2 upd_same (by rw [upd_ne ne, upd_same]) n1 ?_⟩
    have eq : upd (L2.del (upd (upd (upd H1 (hp.objs.size + 1) (exo (hp.objs.size + 1) C none)) dx (exd dx [(f, y)])) (hp.objs.size + 1) (exo (hp.objs.size + 1) C (some dx))) (hp.objs.size + 1)) dx (.xd [(f, y)]) = upd H1 dx (.xd [(f, y)]) := by
      funext b
      by_cases hbd : b = dx
      · subst hbd
        rw [upd_same, upd_same]
      · rw [upd_ne hbd, upd_ne hbd]
        by_cases hba : b = hp.objs.size + 1
        · subst hba
          rw [L2.del_same, free]
        · rw [L2.del_ne hba, upd_ne hba, upd_ne hbd, upd_ne hba]
    rw [eq]
    exact q1 dx n1
  | .ok .next, hq => exact False.elim hq
  | .ok .brk, hq => exact False.elim hq
  | .ok .cont, hq => exact False.elim hq
end
/-- its __init__: B.__init__(self, 'a text'), then self.f = value -/
theorem fn_initB {P : Program} {w : World} {K : PySem.W.Frag} {mg : Str → Option Value} {base : Heap} {k : Nat} {fI C : Addr} {fd : FuncData} {x qual f b v txt : Str} {st : Stmt} {B newId initId : String} {bm : List Value} {p1 p2 p3 p4 p5 p6 p7 p8 p9 : Pos} {j : Nat}
    (F : Fun K x qual st fI fd) (S : FnScope ["self", v] ["self", v] (defScope st)) (T : OexB K C B newId initId bm) (hno : PySem.W.findIn K (.ref C) f = some none)
    (hbody : defBody st = [.Expr (.Call (.Attribute (.Name b p1) "__init__" p2) [.Name "self" p3, .Constant (.str txt) j p4] [] p5) p6, .Assign [.Attribute (.Name "self" p7) f p8] (.Name v p9) p6'])
    (go : ∀ (cdv : Value) (A : Around) (outer : List PySem.Env) (s : Shared) (H : Hp) (E : XK), PSs (cxOf (L2.CX P w) P w K mg base ["self", v] qual (defScope st) fI cdv A outer s H E) (defBody st) (tSeq (tDrop (tBI K B newId initId bm (tCons (tVar 0) (tCons (tC (.str txt)) tNil)))) (tOstB K B newId initId bm f (tVar 0) (tVar 1)))) :
    FnG P w K mg base (L2.CX P w) (k + 1) fI fd ["self", v] (spX C f) := by
  obtain ⟨oc, od, dV, kV, doc, pm, an, cdv, ct, osl, rfl, lk, hcd⟩ := F.ex
  refine fn_ofG lk hcd S (fun vs H Q E h => ?_) fun A outer s H vs Q E hgd hr hsp => ⟨_, go cdv A outer s H E, ?_⟩
  · obtain ⟨a, y, rfl, _⟩ := h
    rfl
  · obtain ⟨a, y, rfl, hH, q⟩ := hsp
    exact ⟨.ref a, rfl, a, C, [.str txt], rfl, (by decide : 1 ≤ 1000), T, hH, y, rfl, .ref a, rfl, a, C, rfl, T, hno, hH, fun dx n ne => q dx n ne⟩
/-! ### raise C(e) in a body -/
/-- an own exception class of one field, ready to be raised -/
structure ExK (P : Program) (w : World) (K : PySem.W.Frag) (mg : Str → Option Value) (base : Heap) (k : Nat) (c f : Str) : Prop where
  ex : ∃ C fI fd ps B newId initId bm, ClsAt K c C ∧ mg c = some (.ref C) ∧ OexB K C B newId initId bm ∧ PySem.W.findIn K (.ref C) "__init__" = some (some (.ref fI)) ∧ PySem.W.typeIn K (.ref fI) = some (.type "function") ∧
    FnG P w K mg base (L2.CX P w) k fI fd ps (spX C f) ∧ Binds K fd ps []
def raiseM (c f : Str) (ca : M PV) : M Fl := bnd ca fun d s => .exc (.obj c [f] [d]) s
section
variable {Y : WX} {X : Cx} {k j : Nat} {c f : Str} {e : Expr} {ca : M PV} {p pos : Pos}
theorem sraise (D : ExK X.prog X.w X.K X.mg X.base j c f) (hc : X.calm = true) (hgd : X.A.guards = some []) (hr : Room k X.A) (tY : Takes X Y) (hjk : j + 1 ≤ k) (he : PE X e (den X.K Y ca)) (hg : Gl X c := by rfl) (hdb : (c == ("__debug__" : Str)) = false := by decide) (hs : starEach [e] X.env = (false, eval e X.env) :: starEach [] X.env := by rfl) (hpl : (backTo pos (starEach [] X.env)).any (·.1) = false := by rfl) :
    PS X (.Raise (some (.Call (.Name c p) [e] [] pos)) none pos') (denS X.K Y (raiseM c f ca)) := by
  obtain ⟨C, fI, fd, ps, B, newId, initId, bm, hC, hm, T, iC, tI, F, hb⟩ := D.ex
  refine ps_imp (ps_raise hc tY (pmk_B T iC tI F hgd (hr.mono hjk) hb hg hm (pa_cons he pa_nil hs) hdb hs hpl)) fun D σ H h => ?_
  obtain ⟨C0, W, s, at', p⟩ := h
  refine ⟨C0, W, s, at', (PstS.bnd p).imp fun d s1 W1 H1 l1 at1 p1 v rv => ⟨v, rfl, fun dx hdx => ?_⟩⟩
  obtain ⟨l, a2⟩ := at1.lay hdx (.xd [(f, v)])
  exact p1 _ σ _ _ _ l a2 (.own (us := [v]) hC upd_same rfl (.cons (rv.mono l) .nil))
end
end Dn
/-! Ex3: try .. except C; instances called; constants of a class. -/
namespace Dn
open PySem L2 ClX StX PySem.Spec PyProof.Rows
section
variable {Y : WX} {K : PySem.W.Frag} {D : Ends} {σ : L2.St} {H : Hp} {tab : List (Str × Bool)} {fa fb : M Fl} {cv : Value} {C : Ctx} {W : Vw}
theorem PstS.other {Y' : WX} {r : Res S Fl} (hr : ∀ e s, r ≠ .exc e s) (p : PstS K (C.wi Y) W D r) : PstS K (C.wi Y') W D r := by
  cases r with
  | ok fl s =>
    intro W' σ' H' l a
    have q := p W' σ' H' l (a.wi Y)
    cases fl with
    | ro xs => exact fun b vs ow => q b vs ⟨ow.f, ow.h, ow.g⟩
    | _ => exact q
  | exc e s => exact absurd rfl (hr e s)
  | stk => exact p
end
section
variable {Y : WX} {X : Cx} {k j np n i : Nat} {ks : List Str} {m x f : Str} {a e o : Expr} {es : List Expr} {ca : M (List PV)} {co ce : M PV} {tab : List (Str × Fn)} {etab : List (Str × Bool)} {pos p p1 np' : Pos} {body suite : List Stmt} {b₀ : Stmt} {fa fb : M Fl} {cv : Value}
/-! ### f(e, ..), f an instance -/
structure InsTab (P : Program) (w : World) (K : PySem.W.Frag) (mg : Str → Option Value) (base : Heap) (k np n : Nat) (tab : List (Str × Fn)) : Prop where
  ok : ∀ c mf, tab.lookup c = some mf → ∃ C g, ClsAt K c C ∧ CallO K C g ∧ Ent P w K mg base k g np n [] mf
def insM (tab : List (Str × Fn)) (n : Nat) (co : M PV) (r : M (List PV)) : M PV := bnd co fun d s => match insOf s d with
  | some (c, _, _) => (match tab.lookup c with
    | some f => bnd r (fun ds s2 => match insOf s2 d with
      | some (c2, _, _) => if c2 = c then runM f n (d :: ds) s2 else .stk
      | none => .stk) s
    | none => .stk)
  | none => .stk
def tInsG (X : Cx) (Y : WX) (k np n : Nat) (tf : TE) (t : TA) : TE := fun σ H Q => tf σ H fun y H1 => ∃ a C g mf, y = V.ref a ∧ CallO X.K C g ∧ Ent X.prog X.w X.K X.mg X.base k g np (n + 1) [] mf ∧ t σ H1 fun vs H2 => vs.length = n ∧ (∃ dx fs, H2 a = some (.ins C dx fs)) ∧ spM X.K np mf (V.ref a :: vs) H2 Q (WE Y σ)
theorem pe_insG {fe : Expr} {tf : TE} {t : TA} (hf : PE X fe tf) (hgd : X.A.guards = some []) (hr : Room k X.A) (tY : Takes X Y) (ha : PA X (e :: es) t)
    (ht : eval (.Call fe (e :: es) [] pos) X.env = (do callWith pos (← eval fe X.env) [] (backTo pos (starEach (e :: es) X.env)) (backToKw pos (keywordEach [] X.env))) := by rfl)
    (he : starEach (e :: es) X.env = (false, eval e X.env) :: starEach es X.env := by rfl) (hpl : (backTo pos (starEach es X.env)).any (·.1) = false := by rfl) : PE X (.Call fe (e :: es) [] pos) (tInsG X Y k np n tf t) := by
  refine ⟨fun pins s σ H Q I h => Call_ (thn (hf.run pins s σ H _ I h) ?_) ht⟩
  rintro u s1 ⟨y, H1, I1, ry, a, C, g, mf, ey, c, F, q⟩
  subst ey
  obtain rfl : u = Value.ref a := ry
  obtain ⟨fd, ps, hnp, G, hb⟩ := F.ex
  refine callO_with (thn (ha.run pos pins s1 σ H1 _ I1 q) ?_) he hpl
  rintro us s2 ⟨vs, H2, I2, r, l, ⟨dx, fs, hH⟩, q2⟩
  obtain ⟨ox, od, J, hd⟩ := insC_at (C := C) I2 (.inr ⟨dx, fs, hH⟩)
  have ln : (Value.ref a :: us).length = n + 1 := by rw [List.length_cons, ← r.length, l]
  have bd := hb.to s2 (Value.ref a :: us) [] I2.kIn ln rfl
  have rr := hb.rel (vs := V.ref a :: vs) (us := Value.ref a :: us) (zs := []) (ws := []) (.cons rfl r) .nil
  rw [List.append_nil] at bd rr
  rw [List.append_nil] at rr
  have go := run_codeG G hgd hr (passAt tY σ) I2 bd rr q2
  exact ⟨⟨C, ox, od, J, hd⟩, wpAny_call (PySem.W.kco_code I2.kIn J hd c.at_ c.fn c.fi go)⟩
theorem den_ins {σ : L2.St} {H : Hp} {Q : VK} (T : InsTab X.prog X.w X.K X.mg X.base k np (i + 1) tab) (h : den X.K Y (insM tab n co (bnd ca fun ds => if ds.length = i then ret ds else stuck)) σ H Q) : tInsG X Y k np i (den X.K Y co) (denA X.K Y ca) σ H Q := by
  obtain ⟨C, W, s, at', p⟩ := h
  refine ⟨C, W, s, at', (Pst.bnd p).imp fun d s1 W1 H1 l1 at1 p1 x rx => ?_⟩
  split at p1
  · rename_i c kk vv e
    split at p1
    · rename_i mf hmf
      obtain ⟨a, Cc, dx, us, rfl, h1, h2, l, ru⟩ := insOf_rep at1 rx e
      obtain ⟨C2, g, k1, k2, F⟩ := T.ok c mf hmf
      refine ⟨a, C2, g, mf, rfl, k2, F, C, W1, s1, at1, (Pst.bnd (Pst.bnd p1)).imp fun ds s2 W2 H2 l2 at2 p2 vs rvs => ?_⟩
      by_cases hl : ds.length = i
      · rw [if_pos hl] at p2
        have p3 := p2 W2 H2 (Vw.Le.refl _) at2
        dsimp only at p3
        split at p3
        · rename_i c2 kk2 vv2 e2
          split at p3
          · rename_i hc2
            subst hc2
            obtain ⟨a', Cc', dx', us', ea, h1', h2', l', ru'⟩ := insOf_rep at2 (rx.mono l2) e2
            cases ea
            cases cls_uniq h1' k1
            exact ⟨rvs.length.trans hl, ⟨dx', _, h2'⟩, sp_run F.len at2 (.cons (rx.mono l2) rvs) p3⟩
          · exact p3.elim
        · exact p3.elim
      · rw [if_neg hl] at p2
        exact p2.elim
    · exact p1.elim
  · exact p1.elim
theorem xins {fe : Expr} (n : Nat) (T : InsTab X.prog X.w X.K X.mg X.base j np (i + 1) tab) (hgd : X.A.guards = some []) (hr : Room k X.A) (tY : Takes X Y) (hjk : j ≤ k) (ho : PE X fe (den X.K Y co)) (ha : PA X (e :: es) (denA X.K Y ca))
    (ht : eval (.Call fe (e :: es) [] pos) X.env = (do callWith pos (← eval fe X.env) [] (backTo pos (starEach (e :: es) X.env)) (backToKw pos (keywordEach [] X.env))) := by rfl)
    (he : starEach (e :: es) X.env = (false, eval e X.env) :: starEach es X.env := by rfl) (hpl : (backTo pos (starEach es X.env)).any (·.1) = false := by rfl) :
    PE X (.Call fe (e :: es) [] pos) (den X.K Y (insM tab n co (bnd ca fun ds => if ds.length = i then ret ds else stuck))) := pe_imp (pe_insG ho hgd (hr.mono hjk) tY ha ht he hpl) fun _ _ _ => den_ins T
/-! ### C.f, a constant of the class -/
theorem xcattr {C : Addr} {mc : Value} {c : Str} {v : Int} {u : Value} (hm : X.mg c = some (.ref C)) (r : CRead X.K C mc) (kv : CVal X.K C mc f (.int v) u) (hg : Gl X c := by rfl) (hd : (c == ("__debug__" : Str)) = false := by decide) (hb : attributeBase (.Name c p) f X.env (eval (.Name c p) X.env) = eval (.Name c p) X.env := by rfl) :
    PE X (.Attribute (.Name c p) f pos) (den X.K Y (ret (.int v))) := pe_imp (pe_cval (pe_glob hg hm (show RelV (.ref C) (.ref C) from rfl) hd) hb) fun σ H Q h => by
  obtain ⟨C0, W, s, at', p⟩ := h
  exact ⟨C, mc, .int v, u, rfl, r, kv, p W H (Vw.Le.refl _) at' _ (.int v)⟩
end
end Dn
/-! Op1: == and != of own instances; isinstance of own classes. -/
namespace Dn
open PySem L2 ClX StX PySem.Spec PyProof.Rows PySem.Calls
end Dn
/-! Op2: == and != of own instances as computations; isinstance of an own class. -/
namespace Dn
open PySem L2 ClX StX PySem.Spec PyProof.Rows PySem.Calls
/-- the built-in types that stand in values -/
abbrev blts : List String := ["NoneType", "bool", "int", "str", "tuple", "list", "dict"]
def tyS (s : S) : PV → Option String
  | .hnd n => match s.sto[n]? with
    | some (.dic _) => some "dict"
    | _ => none
  | d => tyP d
section
variable {Y : WX} {K : PySem.W.Frag} {C : Ctx} {W W' : Vw} {σ : L2.St} {H : Hp} {s : S} {Q : VK} {ca cb : M PV}
theorem tyP_in {d : PV} {t : String} (e : tyP d = some t) : t ∈ blts := by
  cases d <;> cases e <;> decide +kernel
theorem tyS_cases {d : PV} {t : String} (e : tyS s d = some t) : tyP d = some t ∨ ∃ n kvs, d = .hnd n ∧ s.sto[n]? = some (.dic kvs) ∧ t = "dict" := by
  unfold tyS at e
  split at e
  · rename_i n
    split at e
    · rename_i kvs hs
      exact .inr ⟨n, kvs, rfl, hs, (Option.some.inj e).symm⟩
    · cases e
  · exact .inl e
theorem tyS_in {d : PV} {t : String} (e : tyS s d = some t) : t ∈ blts := by
  rcases tyS_cases e with e | ⟨n, kvs, _, _, rfl⟩
  · exact tyP_in e
  · decide +kernel
theorem tyS_rep {d : PV} {v : V} {t : String} (a : At K C W s σ H) (r : Rep K W v d) (e : tyS s d = some t) : TyX K H v (.type t) := by
  rcases tyS_cases e with e | ⟨n, kvs, rfl, hs, rfl⟩
  · exact ty_rep a r e
  · cases r with
    | hnd hn =>
      cases (a.ok.live hn hs (fun z => nomatch z)).2 with
      | dic hH _ => exact .base (.dK hH)
theorem ins_ty {c : Str} {Cc a dx : Addr} {fs : List (Str × V)} (F : C8.InsC K Cc) (h : H a = some (.ins Cc dx fs)) : TyX K H (.ref a) (.ref Cc) := .base (.ins h F.cl F.ha F.hn F.htk F.hm)
/-- what isinstance against the class at D answers -/
structure IsoTab (K : PySem.W.Frag) (D : Addr) (tab : List (Str × Bool)) : Prop where
  own : ∀ c b, tab.lookup c = some b → ∃ C, ClsAt K c C ∧ C8.InsC K C ∧ PySem.W.kitOne K (.ref C) (.ref D) = some b
  blt : ∀ t ∈ blts, PySem.W.kitOne K (.type t) (.ref D) = some false
def isoM (tab : List (Str × Bool)) (d : PV) : M PV := fun s => match insOf s d with
  | some (c, _, _) => (match tab.lookup c with
    | some b => .ok (.bl b) s
    | none => .stk)
  | none => (match tyS s d with
    | some _ => .ok (.bl false) s
    | none => .stk)
theorem den_iso {D : Addr} {tab : List (Str × Bool)} (T : IsoTab K D tab) (h : den K Y (bnd ca (isoM tab)) σ H Q) : tCB (rIsi K) (tCons (den K Y ca) (tCons (tC (.ref D)) tNil)) σ H Q := by
  obtain ⟨C, W, s, at', p⟩ := h
  refine ⟨C, W, s, at', (Pst.bnd p).imp fun d s1 W1 H1 l1 at1 p1 v rv => ?_⟩
  unfold isoM at p1
  cases e : insOf s1 d with
  | some t =>
    obtain ⟨c, ks, vs⟩ := t
    simp only [e] at p1
    cases e2 : tab.lookup c with
    | none => simp only [e2] at p1; exact p1.elim
    | some b =>
      simp only [e2] at p1
      obtain ⟨a, Cc, dx, us, rfl, h1, h2, _, _⟩ := insOf_rep at1 rv e
      obtain ⟨C2, k1, k2, k3⟩ := T.own c b e2
      cases cls_uniq h1 k1
      exact ⟨.ref a, .ref D, .ref _, .ref D, b, rfl, .own D, ins_ty (c := c) k2 h2, k3, p1 W1 H1 (Vw.Le.refl _) at1 _ (.bl b)⟩
  | none =>
    simp only [e] at p1
    cases e2 : tyS s1 d with
    | none => simp only [e2] at p1; exact p1.elim
    | some t =>
      simp only [e2] at p1
      exact ⟨v, .ref D, .type t, .ref D, false, rfl, .own D, tyS_rep at1 rv e2, T.blt t (tyS_in e2), p1 W1 H1 (Vw.Le.refl _) at1 _ (.bl false)⟩
/-! ### == by an own def -/
end
end Dn
/-! Op3: the rules in short: ==, != of own instances; isinstance. -/
namespace Dn
open PySem L2 ClX StX PySem.Spec PyProof.Rows PySem.Calls
section
variable {Y : WX} {X : Cx} {k j n : Nat} {a b e : Expr} {ca cb : M PV} {pos p px : Pos} {tab : List (Str × Fn)} {rel : List ((Str × Str) × Bool)}
theorem xiso {c : Str} {D : Addr} {itab : List (Str × Bool)} (T : IsoTab X.K D itab) (hc : X.mg c = some (.ref D)) (hm : X.mg "isinstance" = none) (ha : PE X a (den X.K Y ca)) (hg : Gl X "isinstance" := by rfl) (hgc : Gl X c := by rfl) (hd : (c == ("__debug__" : Str)) = false := by decide)
    (h1 : starEach [a, .Name c p] X.env = (false, eval a X.env) :: starEach [.Name c p] X.env := by rfl) (h2 : starEach [.Name c p] X.env = (false, eval (.Name c p) X.env) :: starEach [] X.env := by rfl) (hpl : (backTo pos (starEach [.Name c p] X.env)).any (·.1) = false := by rfl) :
    PE X (.Call (.Name "isinstance" px) [a, .Name c p] [] pos) (den X.K Y (bnd ca (isoM itab))) :=
  pe_imp (pe_callB call_isi hg hm PyProof.Rows.Boot.«isinstance» (pa_cons ha (pa_cons (pe_glob hgc hc (show L2.RelV (.ref D) (.ref D) from rfl) hd) pa_nil h2) h1) (by decide) (by decide) h1 hpl) fun _ _ _ => den_iso T
end
end Dn
/-! Op4: str, f-strings, truth, items stored. -/
namespace Dn
open PySem L2 ClX StX PySem.Spec PyProof.Rows PySem.Calls
end Dn
/-! Op5: {}. -/
namespace Dn
open PySem L2 ClX StX PySem.Spec PyProof.Rows PySem.Calls
end Dn
/-! Ev1: a caught exception that is kept as a value behind its try. -/
namespace Dn
open PySem L2 PySem.Spec PyProof.Rows PySem.Calls
theorem _root_.PySem.HandSPX.FlyingZ.keep {B h h' : Heap} {l : List PySem.Env} {a : Addr} {Z : Obj → Prop} (x : HandSPX.FlyingZ B l a Z h) (k : ∀ q o, h.get? q = some o → h'.get? q = some o) : HandSPX.FlyingZ B l a Z h' := by
  obtain ⟨k1, k2, k3, oe, vs, T, oT, ts, he, hz, hd, h1, hT, hne, hoT, hdT, h3⟩ := x
  exact ⟨fun b o e => k b o (k1 b o e), k2, Heap.FunFrames.of_keeps (fun b o e _ => ⟨o, k b o e, rfl⟩) k3, oe, vs, T, oT, ts, k _ _ he, hz, hd, h1, hT, hne, k _ _ hoT, hdT, h3⟩
end Dn
/-! Ev2: try .. except C as e: y = e; the kept exception's fields; isinstance of it; {"a": 1} as a value. -/
namespace Dn
open PySem L2 ClX StX PySem.Spec PyProof.Rows
section
variable {Y : WX} {K : PySem.W.Frag} {D : Ends} {σ : L2.St} {H : Hp} {tab : List (Str × Bool)} {fa fb : M Fl} {cv : Value} {C : Ctx} {W : Vw} {i j : Nat}
theorem At.del {s : S} (h : At K C W s σ H) (i : Nat) : At K C W { s with env := s.env.set i none } (σ.set i none) H := by
  have ne : ∀ {m : Nat} {sv : SV}, (s.env.set i none)[m]? = some (some sv) → i ≠ m := fun {m sv} he hm => by
    subst hm
    have hi : i < s.env.length := by
      have := (List.getElem?_eq_some_iff.mp he).1
      rwa [List.length_set] at this
    rw [List.getElem?_set_self hi] at he
    cases he
  refine ⟨h.ok, h.keep, h.pre, h.gro, by rw [List.length_set, List.length_set]; exact h.len, fun j e he => ?_, fun j ys he => ?_, fun j k ys zs a h1 h2 h3 h4 => ?_⟩
  · have n1 := ne he
    rw [List.getElem?_set_ne n1] at he ⊢
    exact h.val j e he
  · have n1 := ne he
    rw [List.getElem?_set_ne n1] at he ⊢
    exact h.own j ys he
  · have n1 := ne h1
    have n2 := ne h2
    rw [List.getElem?_set_ne n1] at h1 h3
    rw [List.getElem?_set_ne n2] at h2 h4
    exact h.dst j k ys zs a h1 h2 h3 h4
end
end Dn
/-! Ev3: a kept exception's fields; isinstance of it; {"a": 1} as a value and its repr. -/
namespace Dn
open PySem L2 ClX StX PySem.Spec PyProof.Rows
/-! ### e.f -/
end Dn
/-! Ev4: {} and {"a": 1} as values that never change. -/
namespace Dn
open PySem L2 ClX StX PySem.Spec PyProof.Rows PySem.Calls
end Dn
/-! Tr1: a def's own handles are frozen and dropped when it ends. -/
namespace Dn
open PySem L2 PySem.Spec PyProof.Rows
mutual
/-- no handle from n on -/
def PV.cl (n : Nat) : PV → Prop
  | .hnd m => m < n
  | .tup xs => PV.cls n xs
  | .lst xs => PV.cls n xs
  | .obj _ _ vs => PV.cls n vs
  | .exn _ _ vs => PV.cls n vs
  | .dct _ vs => PV.cls n vs
  | _ => True
def PV.cls (n : Nat) : List PV → Prop
  | [] => True
  | x :: xs => PV.cl n x ∧ PV.cls n xs
end
def MO.cl (n i : Nat) : MO → Prop
  | .dic kvs => PV.cls n (kvs.map (·.2))
  | .ins _ _ vs => i + 1 < n ∧ PV.cls n vs
  | .own m => m < n
  | .dtt kvs => PV.cls n (kvs.map (·.2))
  | .gone => True
mutual
/-- a def's own dict is a value behind it -/
def PV.frz (n : Nat) (st : List MO) : PV → PV
  | .hnd m => if n ≤ m then (match st[m]? with
    | some (.dic kvs) => .dct (kvs.map (·.1)) (kvs.map (·.2))
    | _ => .hnd m) else .hnd m
  | .tup xs => .tup (PV.frzs n st xs)
  | .lst xs => .lst (PV.frzs n st xs)
  | .obj c ks vs => .obj c ks (PV.frzs n st vs)
  | d => d
def PV.frzs (n : Nat) (st : List MO) : List PV → List PV
  | [] => []
  | x :: xs => PV.frz n st x :: PV.frzs n st xs
end
theorem frzs_len {n : Nat} {st : List MO} : ∀ {xs : List PV}, (PV.frzs n st xs).length = xs.length
  | [] => rfl
  | x :: xs => by rw [PV.frzs, List.length_cons, List.length_cons, frzs_len]
section
variable {K : PySem.W.Frag} {W W0 : Vw} {H H0 : Hp} {st st0 : List MO} {n : Nat} {a : Addr}
theorem ix_hs (hd : W.hs.Nodup) {m m' : Nat} {a : Addr} (p : W.hs[m]? = some a) (q : W.hs[m']? = some a) : m = m' := by
  obtain ⟨l1, y1⟩ := List.getElem?_eq_some_iff.mp p
  obtain ⟨l2, y2⟩ := List.getElem?_eq_some_iff.mp q
  exact (List.getElem_inj hd).mp (y1.trans y2.symm)
mutual
theorem Rep.cl (h : W.hs.length ≤ n) : ∀ {v : V} {d : PV}, Rep K W v d → d.cl n
  | _, _, .non => trivial
  | _, _, .bl _ => trivial
  | _, _, .int _ => trivial
  | _, _, .str _ => trivial
  | _, _, .tup _ r => by rw [PV.cl]; exact Reps.cl h r
  | _, _, .lst _ r => by rw [PV.cl]; exact Reps.cl h r
  | _, _, .scr _ => trivial
  | _, _, .hnd e => by
    rw [PV.cl]
    have := (List.getElem?_eq_some_iff.mp e).1
    omega
  | _, _, .obj _ _ _ _ r => by rw [PV.cl]; exact Reps.cl h r
  | _, _, .exn _ _ _ _ r => by rw [PV.cl]; exact Reps.cl h r
  | _, _, .dic _ => trivial
  | _, _, .dct _ _ r => by rw [PV.cl]; exact Reps.cl h r
  | _, _, .kt _ => trivial
theorem Reps.cl (h : W.hs.length ≤ n) : ∀ {vs : List V} {ds : List PV}, Reps K W vs ds → PV.cls n ds
  | _, _, .nil => trivial
  | _, _, .cons q r => ⟨Rep.cl h q, Reps.cl h r⟩
end
theorem KVs.clv {κ : Type} (h : W.hs.length ≤ n) : ∀ {vs : List (κ × V)} {ds : List (κ × PV)}, KVs K W vs ds → PV.cls n (ds.map (·.2))
  | _, _, .nil => trivial
  | _, _, .cons q r => ⟨q.cl h, KVs.clv h r⟩
theorem okk_cl (ok : Okk K W st H) {i : Nat} {mo : MO} (e : st[i]? = some mo) : mo.cl st.length i := by
  have hl := ok.len
  have hi : i < W.hs.length := by
    have := (List.getElem?_eq_some_iff.mp e).1
    omega
  rcases ok.hnd i _ (List.getElem?_eq_getElem hi) with ⟨_, mo', e', mr⟩ | ⟨_, e'⟩
  · rw [e] at e'
    cases e'
    cases mr with
    | dic _ k => exact k.clv (by omega)
    | dtt _ k => exact k.clv (by omega)
    | ins _ _ h1 h2 _ r =>
      refine ⟨?_, r.cl (by omega)⟩
      have h3 := ix_hs ok.nd h1 (List.getElem?_eq_getElem hi)
      have h4 := (List.getElem?_eq_some_iff.mp h2).1
      omega
    | own h1 _ =>
      have := (List.getElem?_eq_some_iff.mp h1).1
      show _ < _
      omega
  · rw [e] at e'
    cases e'
    trivial
/-! ### locking for good -/
def lckL : List Addr → VK → VK
  | [], Q => Q
  | d :: S, Q => fun v H => ∃ u, H d = some u ∧ Mut (some u) ∧ ∀ od, lckL S Q v (upd H d (.frz od u))
/-- Q, some dicts locked for good -/
def lckQ (Q : VK) : VK := fun v H => ∃ S, lckL S Q v H
theorem lckL_of : ∀ {S : List Addr} {H : Hp} {Q : VK} {v : V}, S.Nodup → (∀ a ∈ S, ∃ u, H a = some u ∧ Mut (some u)) →
    (∀ H' : Hp, (∀ a ∈ S, ∀ u, H a = some u → ∃ o, H' a = some (.frz o u)) → (∀ a, a ∉ S → H' a = H a) → Q v H') → lckL S Q v H
  | [], H, Q, v, _, _, q => q H (fun a h => nomatch h) fun a _ => rfl
  | d :: S, H, Q, v, nd, h, q => by
    obtain ⟨u, e, mu⟩ := h d List.mem_cons_self
    rw [List.nodup_cons] at nd
    refine ⟨u, e, mu, fun od => lckL_of nd.2 (fun a ha => ?_) fun H' h1 h2 => q H' (fun a ha w ew => ?_) fun a ha => ?_⟩
    · have hne : a ≠ d := fun z => nd.1 (z ▸ ha)
      rw [upd_ne hne]
      exact h a (List.mem_cons_of_mem _ ha)
    · rcases List.mem_cons.mp ha with rfl | ha
      · rw [e] at ew
        cases ew
        exact ⟨od, (h2 _ nd.1).trans upd_same⟩
      · have hne : a ≠ d := fun z => nd.1 (z ▸ ha)
        exact h1 a ha w (by rw [upd_ne hne]; exact ew)
    · have hne : a ≠ d := fun z => ha (by rw [z]; exact List.mem_cons_self)
      rw [h2 a fun z => ha (List.mem_cons_of_mem _ z), upd_ne hne]
theorem mut_there {P : Program} {w : World} {H : Hp} {h : Heap} {d : Addr} {u : HO} (x : ObjOk P w H h d u) (mu : Mut (some u)) : ∃ od, h.get? d = some od := by
  cases u with
  | lst xs => obtain ⟨_, _, _, _, e⟩ := x; exact ⟨_, e⟩
  | dK kvs => obtain ⟨_, _, _, _, o, _, _, e, _⟩ := x; exact ⟨o, e⟩
  | dT kvs => obtain ⟨_, _, _, _, o, _, _, e, _⟩ := x; exact ⟨o, e⟩
  | set S n => obtain ⟨o, _, _, _, e, _⟩ := x; exact ⟨o, e⟩
  | ins C dx fs => obtain ⟨_, _, _, e, _⟩ := x; exact ⟨_, e⟩
  | ext φ => obtain ⟨_, ⟨_, e⟩, _⟩ := x; exact ⟨_, e⟩
  | _ => exact False.elim mu
theorem hok_lock {P : Program} {w : World} {H : Hp} {h : Heap} {d : Addr} {u : HO} (ok : HOk P w H h) (e : H d = some u) (mu : Mut (some u)) : ∃ od, HOk P w (upd H d (.frz od u)) h := by
  obtain ⟨od, ho⟩ := mut_there (ok d u e) mu
  have no : ∀ {b : Addr} {x : HO}, H b = some x → ¬ Mut (some x) → b ≠ d := fun {b x} q n z => by
    subst z
    rw [e] at q
    cases q
    exact n mu
  have stay : ∀ {b : Addr} {x : HO}, ObjOk P w H h b x → ObjOk P w (upd H d (.frz od u)) h b x := fun {b x} q =>
    q.stay (fun _ _ _ z => z) (fun c z => by rw [upd_ne (no z fun q => q)]; exact z) fun c xs z => by rw [upd_ne (no z fun q => q)]; exact z
  refine ⟨od, fun b x q => ?_⟩
  by_cases hb : b = d
  · subst hb
    rw [upd_same] at q
    cases q
    exact ⟨ho, stay (ok b u e)⟩
  · rw [upd_ne hb] at q
    exact stay (ok b x q)
theorem ce_lock {P : Program} {w : World} {outer : List PySem.Env} {H : Hp} {s : Shared} {u : Value} {s' : Shared} {v : V} {Q : VK} : ∀ {S : List Addr} {H' : Hp}, s'.os = s.os → AllBare s'.gens → Un (frs outer) [] H H' s.heap s'.heap → HOk P w H' s'.heap → RelV v u → lckL S Q v H' → CE outer P w H s Q u s'
  | [], H', os, b, un, ok, r, q => ⟨v, H', os, b, un, ok, r, q⟩
  | d :: S, H', os, bare, un, ok, r, q => by
    obtain ⟨o, e, mu, q⟩ := q
    obtain ⟨od, ok2⟩ := hok_lock ok e mu
    have no : ∀ {b : Addr} {x : HO}, H' b = some x → ¬ Mut (some x) → b ≠ d := fun {b x} y n z => by
      subst z
      rw [e] at y
      cases y
      exact n mu
    refine ce_lock os bare ⟨un.keep, un.slot, fun c o1 e1 e2 e3 => ?_, un.there, fun c xs e1 => ?_, fun c o1 u1 e1 => ?_, fun c ps e1 => ?_⟩ ok2 r (q od)
    · have z := un.free c o1 e1 e2 e3
      rw [upd_ne (fun y => by rw [y, e] at z; cases z)]
      exact z
    · have z := un.tups c xs e1
      rw [upd_ne (no z fun q => q)]
      exact z
    · have z := un.frzs c o1 u1 e1
      rw [upd_ne (no z fun q => q)]
      exact z
    · obtain ⟨more, z⟩ := un.tbls c ps e1
      exact ⟨more, by rw [upd_ne (no z fun q => q)]; exact z⟩
theorem FnG.lck {P : Program} {w : World} {K : PySem.W.Frag} {mg : Str → Option Value} {base : Heap} {CX : CXT} {k : Nat} {f : Addr} {fd : FuncData} {ps : List Str} {sp : Sp} (F : FnG P w K mg base CX k f fd ps sp) : FnG P w K mg base CX k f fd ps (fun vs H Q E => sp vs H (lckQ Q) E) := by
  refine ⟨fun vs H Q E q => F.len vs H _ E q, fun A outer s H args us vs Q E hgd hr e0 hb r q => codeAny_mono (F.run A outer s H args us vs _ E hgd hr e0 hb r q) fun res s' hq => ?_⟩
  cases res with
  | error e => exact hq
  | ok fl =>
    cases fl with
    | next => exact hq
    | brk => exact hq
    | cont => exact hq
    | ret u =>
      obtain ⟨v, H', os, b, un, ok, rv, S, q⟩ := hq
      exact ce_lock os b un ok rv q
/-- the view behind a def: its own handles frozen -/
noncomputable def Vw.cut (W : Vw) (n : Nat) (H : Hp) : Vw := ⟨fun a => open Classical in if a ∈ W.hs.drop n ∧ W.F a = none then H a else W.F a, W.hs.take n⟩
theorem cut_F (h : W.F a ≠ none) : (W.cut n H).F a = W.F a := by
  show (if _ then _ else _) = _
  rw [if_neg (fun z => h z.2)]
theorem cut_out (h : a ∉ W.hs.drop n) : (W.cut n H).F a = W.F a := by
  show (if _ then _ else _) = _
  rw [if_neg (fun z => h z.1)]
theorem cut_in (h : a ∈ W.hs.drop n) (hF : W.F a = none) : (W.cut n H).F a = H a := by
  show (if _ then _ else _) = _
  rw [if_pos ⟨h, hF⟩]
theorem mem_drop {l : List Addr} {m : Nat} (h : l[m]? = some a) (hn : n ≤ m) : a ∈ l.drop n := by
  have e : (l.drop n)[m - n]? = some a := by
    rw [List.getElem?_drop, show n + (m - n) = m by omega]
    exact h
  exact List.mem_of_getElem? e
theorem nmem_drop {l : List Addr} (hd : l.Nodup) {m : Nat} (h : l[m]? = some a) (hn : m < n) : a ∉ l.drop n := fun hm => by
  obtain ⟨j, hj⟩ := List.getElem?_of_mem hm
  rw [List.getElem?_drop] at hj
  obtain ⟨l1, y1⟩ := List.getElem?_eq_some_iff.mp h
  obtain ⟨l2, y2⟩ := List.getElem?_eq_some_iff.mp hj
  have := (List.getElem_inj hd).mp (y1.trans y2.symm)
  omega
theorem take_get {l : List Addr} {m : Nat} (hm : m < n) : (l.take n)[m]? = l[m]? := by
  rw [List.getElem?_take, if_pos hm]
theorem cut_same (W : Vw) (n : Nat) (H : Hp) : Same W.F (W.cut n H).F := fun b u e => by
  rw [cut_F (by rw [e]; exact fun z => nomatch z)]
  exact e
mutual
theorem Rep.cutV : ∀ {v : V} {d : PV}, Rep K W v d → d.cl n → Rep K (W.cut n H) v d
  | _, _, .non, _ => .non
  | _, _, .bl b, _ => .bl b
  | _, _, .int i, _ => .int i
  | _, _, .str x, _ => .str x
  | _, _, .tup h r, c => .tup (same_t (cut_same W n H) h) (Reps.cutV r (by rw [PV.cl] at c; exact c))
  | _, _, .lst h r, c => .lst (cut_same W n H _ _ h) (Reps.cutV r (by rw [PV.cl] at c; exact c))
  | _, _, .scr h, _ => .scr ((cut_same W n H).seq h)
  | _, _, .hnd h, c => .hnd (by
    rw [PV.cl] at c
    exact (take_get c).trans h)
  | _, _, .obj c h d n r, q => .obj c (cut_same W _ H _ _ h) (cut_same W _ H _ _ d) n (Reps.cutV r (by rw [PV.cl] at q; exact q))
  | _, _, .exn c h d n r, q => .exn c (cut_same W _ H _ _ h) (cut_same W _ H _ _ d) n (Reps.cutV r (by rw [PV.cl] at q; exact q))
  | _, _, .dic h, _ => .dic (cut_same W n H _ _ h)
  | _, _, .dct h n r, q => .dct (cut_same W _ H _ _ h) n (Reps.cutV r (by rw [PV.cl] at q; exact q))
  | _, _, .kt h, _ => .kt (cut_same W n H _ _ h)
theorem Reps.cutV : ∀ {vs : List V} {ds : List PV}, Reps K W vs ds → PV.cls n ds → Reps K (W.cut n H) vs ds
  | _, _, .nil, _ => .nil
  | _, _, .cons h r, c => .cons (Rep.cutV h c.1) (Reps.cutV r c.2)
end
theorem KVs.cutV {κ : Type} : ∀ {vs : List (κ × V)} {ds : List (κ × PV)}, KVs K W vs ds → PV.cls n (ds.map (·.2)) → KVs K (W.cut n H) vs ds
  | _, _, .nil, _ => .nil
  | _, _, .cons h r, c => .cons (h.cutV c.1) (KVs.cutV r c.2)
theorem KVs.zip : ∀ {vs : List (Key × V)} {ds : List (Key × PV)}, KVs K W vs ds → vs = (ds.map (·.1)).zip (vs.map (·.2)) ∧ Reps K W (vs.map (·.2)) (ds.map (·.2))
  | _, _, .nil => ⟨rfl, .nil⟩
  | _, _, .cons (k := k) (v := v) (d := d) (r := r) (s := s) h t => by
    obtain ⟨e, q⟩ := KVs.zip t
    refine ⟨?_, .cons h q⟩
    rw [List.map_cons, List.map_cons, List.zip_cons_cons, ← e]
/-- H' is H with own dicts locked -/
structure Lkd (W : Vw) (st : List MO) (n : Nat) (H H' : Hp) : Prop where
  out : ∀ a, (a ∈ W.hs.drop n → W.F a ≠ none) → H' a = H a
  dic : ∀ m a kvs, n ≤ m → W.hs[m]? = some a → st[m]? = some (.dic kvs) → ∀ u, H a = some u → ∃ o, H' a = some (.frz o u)
mutual
theorem Rep.frz {HL : Hp} (ok : Okk K W st H) (lk : Lkd W st n H HL) : ∀ {v : V} {d : PV}, Rep K W v d → (d.frz n st).cl n → Rep K (W.cut n HL) v (d.frz n st)
  | _, _, .non, _ => .non
  | _, _, .bl b, _ => .bl b
  | _, _, .int i, _ => .int i
  | _, _, .str x, _ => .str x
  | _, _, .tup h r, c => by
    rw [PV.frz] at c ⊢
    rw [PV.cl] at c
    exact .tup (same_t (cut_same W n HL) h) (Reps.frz ok lk r c)
  | _, _, .lst h r, c => by
    rw [PV.frz] at c ⊢
    rw [PV.cl] at c
    exact .lst (cut_same W n HL _ _ h) (Reps.frz ok lk r c)
  | _, _, .scr h, _ => .scr ((cut_same W n HL).seq h)
  | _, .hnd m, .hnd h, c => by
    rw [PV.frz] at c ⊢
    split at c
    · rename_i hn
      rw [if_pos hn]
      split at c
      · rename_i kvs hs
        obtain ⟨f, mr⟩ := ok.live h hs (fun z => nomatch z)
        cases mr with
        | dic hH kv =>
          have e := cut_in (H := HL) (mem_drop h hn) f
          obtain ⟨o, eo⟩ := lk.dic m _ _ hn h hs _ hH
          rw [PV.cl] at c
          obtain ⟨z1, z2⟩ := kv.zip
          refine .dct (o := o) (us := _) ?_ (by rw [List.length_map, List.length_map]) (Reps.cutV z2 c)
          rw [e, eo]
          exact congrArg (fun z => some (HO.frz o (HO.dK z))) z1
      · rw [PV.cl] at c
        omega
    · rename_i hn
      rw [if_neg hn]
      exact Rep.cutV (.hnd h) c
  | _, _, .obj c h d n r, q => by
    rw [PV.frz] at q ⊢
    rw [PV.cl] at q
    exact .obj c (cut_same W _ HL _ _ h) (cut_same W _ HL _ _ d) (by rw [frzs_len]; exact n) (Reps.frz ok lk r q)
  | _, _, .exn c h d n r, q => Rep.cutV (.exn c h d n r) q
  | _, _, .dic h, _ => .dic (cut_same W n HL _ _ h)
  | _, _, .dct h n r, q => Rep.cutV (.dct h n r) q
  | _, _, .kt h, _ => .kt (cut_same W n HL _ _ h)
theorem Reps.frz {HL : Hp} (ok : Okk K W st H) (lk : Lkd W st n H HL) : ∀ {vs : List V} {ds : List PV}, Reps K W vs ds → PV.cls n (PV.frzs n st ds) → Reps K (W.cut n HL) vs (PV.frzs n st ds)
  | _, _, .nil, _ => .nil
  | _, _, .cons h r, c => .cons (Rep.frz ok lk h c.1) (Reps.frz ok lk r c.2)
end
/-- what stood before, and still stands or names nothing new -/
def Shut (st0 st : List MO) : Prop := ∀ i mo, i < st0.length → st[i]? = some mo → st0[i]? = some mo ∨ mo.cl st0.length i
/-- the Okk part -/
theorem cut_okk {HL : Hp} {n : Nat} (ok0 : Okk K W0 st0 H0) (hn : st0.length = n) (hle : W0.hs.length ≤ W.hs.length) (ok : Okk K W st H) (hc : Shut st0 st) (lk : Lkd W st n H HL) : Okk K (W.cut n HL) (st.take n) HL := by
  subst hn
  have len0 := ok0.len
  have len1 := ok.len
  refine ⟨fun b u e => ?_, fun i b e => ?_, ?_, ?_⟩
  · have e : (W.cut st0.length HL).F b = some u := e
    by_cases hm : b ∈ W.hs.drop st0.length ∧ W.F b = none
    · rw [cut_in hm.1 hm.2] at e
      exact e
    · unfold Vw.cut at e
      dsimp only at e
      rw [if_neg hm] at e
      rw [lk.out b fun z y => hm ⟨z, y⟩]
      exact ok.sub b u e
  · have hi : i < st0.length := by
      have h1 := (List.getElem?_eq_some_iff.mp e).1
      have h2 : (W.cut st0.length HL).hs.length = (W.hs.take st0.length).length := rfl
      rw [h2, List.length_take] at h1
      omega
    have e1 : W.hs[i]? = some b := (take_get hi).symm.trans e
    have nd := nmem_drop ok.nd e1 hi
    have eF := cut_out (H := HL) nd
    have eH : HL b = H b := lk.out b fun z => absurd z nd
    have eS : (st.take st0.length)[i]? = st[i]? := by rw [List.getElem?_take, if_pos hi]
    rcases ok.hnd i b e1 with ⟨g1, mo, g2, g3⟩ | ⟨g1, g2⟩
    · refine .inl ⟨eF.trans g1, mo, eS.trans g2, MRep.at ?_ eH⟩
      have c : mo.cl st0.length i := by
        rcases hc i mo hi g2 with z | z
        · exact okk_cl ok0 z
        · exact z
      cases g3 with
      | dic h k => exact .dic h (k.cutV c)
      | dtt h k => exact .dtt h (k.cutV c)
      | ins h1 h2 h3 h4 h5 r =>
        have e3 := ix_hs ok.nd h3 e1
        subst e3
        exact .ins h1 h2 e ((take_get c.1).trans h4) h5 (r.cutV c.2)
      | own h1 h2 => exact .own ((take_get c).trans h1) h2
    · exact .inr ⟨by rw [eF]; exact g1, eS.trans g2⟩
  · exact ok.nd.sublist (List.take_sublist _ _)
  · show (st.take _).length = (W.hs.take _).length
    rw [List.length_take, List.length_take, len1]
theorem le_hs (l : W0.Le W) : W0.hs.length ≤ W.hs.length := by
  rcases Nat.lt_or_ge W.hs.length W0.hs.length with z | z
  · have := l.pre W.hs.length _ (List.getElem?_eq_getElem z)
    rw [List.getElem?_eq_none (Nat.le_refl _)] at this
    cases this
  · exact z
theorem cut_ok {HL : Hp} (ok0 : Okk K W0 st0 H0) (l : W0.Le W) (ok : Okk K W st H) (g : Grow W0 W H0 H) (hc : Shut st0 st) (lk : Lkd W st st0.length H HL) :
    W0.Le (W.cut st0.length HL) ∧ Okk K (W.cut st0.length HL) (st.take st0.length) HL ∧ Grow W0 (W.cut st0.length HL) H0 HL := by
  have len0 := ok0.len
  have out : ∀ {b : Addr}, H0 b ≠ none → b ∉ W.hs.drop st0.length := fun {b} hb hm => by
    obtain ⟨g1, g2⟩ := g.gro b hb
    obtain ⟨i, hi⟩ := List.getElem?_of_mem (g2 (List.mem_of_mem_drop hm))
    have h1 := (List.getElem?_eq_some_iff.mp hi).1
    exact nmem_drop ok.nd (l.pre i b hi) (show i < st0.length by omega) hm
  refine ⟨⟨fun b u e => cut_same W _ HL b u (l.ex b u e), fun i b e => ?_⟩, cut_okk ok0 rfl (le_hs l) ok hc lk, ⟨fun b o e hb => ?_, fun b hb => ?_⟩⟩
  · have := (List.getElem?_eq_some_iff.mp e).1
    exact (take_get (by omega)).trans (l.pre i b e)
  · rw [lk.out b fun z => absurd z (out (by rw [e]; exact fun q => nomatch q))]
    exact g.keep b o e hb
  · obtain ⟨g1, g2⟩ := g.gro b hb
    refine ⟨?_, fun hm => g2 (List.mem_of_mem_take hm)⟩
    rw [← g1]
    exact cut_out (out hb)
/-- the live dicts from n on -/
theorem lkd_all {n : Nat} {Q : VK} {v : V} (ok : Okk K W st H) (q : ∀ HL, Lkd W st n H HL → Q v HL) : lckQ Q v H := by
  have hS : ∃ S : List Addr, S.Nodup ∧ ∀ a, a ∈ S ↔ ∃ m kvs, n ≤ m ∧ W.hs[m]? = some a ∧ st[m]? = some (.dic kvs) := by
    open Classical in
    refine ⟨W.hs.filter fun a => decide (∃ m kvs, n ≤ m ∧ W.hs[m]? = some a ∧ st[m]? = some (.dic kvs)), ok.nd.sublist List.filter_sublist, fun a => ?_⟩
    rw [List.mem_filter]
    constructor
    · exact fun h => of_decide_eq_true h.2
    · rintro ⟨m, kvs, h1, h2, h3⟩
      exact ⟨List.mem_of_getElem? h2, decide_eq_true ⟨m, kvs, h1, h2, h3⟩⟩
  obtain ⟨S, nd, hS⟩ := hS
  refine ⟨S, lckL_of nd (fun a ha => ?_) fun HL h1 h2 => q HL ⟨fun a ha => ?_, fun m a kvs hm e1 e2 u e => h1 a ((hS a).mpr ⟨m, kvs, hm, e1, e2⟩) u e⟩⟩
  · obtain ⟨m, kvs, _, e1, e2⟩ := (hS a).mp ha
    cases (ok.live e1 e2 (fun z => nomatch z)).2 with
    | dic hH _ => exact ⟨_, hH, trivial⟩
  · refine h2 a fun z => ?_
    obtain ⟨m, kvs, hm, e1, e2⟩ := (hS a).mp z
    exact ha (mem_drop e1 hm) (ok.live e1 e2 (fun z => nomatch z)).1
end
/-- how a def ends -/
noncomputable def fin (st0 st : List MO) (d : PV) : PV × List MO := open Classical in
  if st.length ≤ st0.length then (d, st) else if (d.frz st0.length st).cl st0.length ∧ Shut st0 st then (d.frz st0.length st, st.take st0.length) else (d, st)
noncomputable def finR (st0 : List MO) : RR → RR
  | .ok d st => .ok (fin st0 st d).1 (fin st0 st d).2
  | r => r
noncomputable def fnT (np nn : Nat) (body : Nat → M Fl) : Fn := fun n ds st => finR st (fnM np nn body n ds st)
theorem lckQ_no {Q : VK} {v : V} {H : Hp} (h : Q v H) : lckQ Q v H := ⟨[], h⟩
theorem spM_fin {K : PySem.W.Frag} {np : Nat} {m : Fn} {vs : List V} {H : Hp} {Q : VK} {E : XK} (h : spM K np (fun n ds st => finR st (m n ds st)) vs H Q E) : spM K np m vs H (lckQ Q) E := by
  obtain ⟨hl, n, W, st, ds, ok, r, p⟩ := h
  refine ⟨hl, n, W, st, ds, ok, r, ?_⟩
  dsimp only at p
  cases e : m n ds st with
  | stk => rw [e] at p; exact p.elim
  | exc x st' => rw [e] at p; exact p
  | ok d st' =>
    rw [e] at p
    intro v W' H' l ok' g rv
    have p : SpPost K W H Q E (.ok (fin st st' d).1 (fin st st' d).2) := p
    unfold fin at p
    split at p
    · exact lckQ_no (p v W' H' l ok' g rv)
    · split at p
      · rename_i hc
        refine lkd_all (n := st.length) ok' fun HL lk => ?_
        obtain ⟨l2, ok2, g2⟩ := cut_ok ok l ok' g hc.2 lk
        exact p v _ HL l2 ok2 g2 (rv.frz ok' lk hc.1)
      · exact lckQ_no (p v W' H' l ok' g rv)
theorem FnG.sp {P : Program} {w : World} {K : PySem.W.Frag} {mg : Str → Option Value} {base : Heap} {CX : CXT} {k : Nat} {f : Addr} {fd : FuncData} {ps : List Str} {sp sp' : Sp} (F : FnG P w K mg base CX k f fd ps sp) (h : ∀ vs H Q E, sp' vs H Q E → sp vs H Q E) : FnG P w K mg base CX k f fd ps sp' :=
  ⟨fun vs H Q E q => F.len vs H Q E (h _ _ _ _ q), fun A outer s H args us vs Q E hgd hr e0 hb r q => F.run A outer s H args us vs Q E hgd hr e0 hb r (h _ _ _ _ q)⟩
theorem FnG.fin {P : Program} {w : World} {K : PySem.W.Frag} {mg : Str → Option Value} {base : Heap} {CX : CXT} {k np nn i : Nat} {f : Addr} {fd : FuncData} {ps : List Str} {body : Nat → M Fl} (F : FnG P w K mg base CX k f fd ps (spM K i (fnM np nn body))) : FnG P w K mg base CX k f fd ps (spM K i (fnT np nn body)) :=
  F.lck.sp fun _ _ _ _ h => spM_fin h
/-- a def's computation: as it is (false), or with its own handles dropped (true) -/
noncomputable def fnQ (b : Bool) (np nn : Nat) (body : Nat → M Fl) : Fn := match b with
  | true => fnT np nn body
  | false => fnM np nn body
theorem fnT_len {np nn n : Nat} {body : Nat → M Fl} {ds : List PV} {st : List MO} (h : fnT np nn body n ds st ≠ .stk) : ds.length = np := by
  refine fnM_len (nn := nn) (body := body) (n := n) (st := st) fun z => h ?_
  unfold fnT
  rw [z]
  rfl
theorem fnQ_len {b : Bool} {np nn n : Nat} {body : Nat → M Fl} {ds : List PV} {st : List MO} (h : fnQ b np nn body n ds st ≠ .stk) : ds.length = np := by
  cases b with
  | true => exact fnT_len h
  | false => exact fnM_len h
end Dn
/-! Fx: what a printed text is told of the module: defs, methods, classes, each in one row. -/
namespace Dn
open PySem L2 ClX StX NdefX PySem.Spec PyProof.Rows
theorem look_cons {α : Type} {a c : Str} {x y : α} {r : List (Str × α)} (h : ((a, x) :: r).lookup c = some y) : (c = a ∧ y = x) ∨ r.lookup c = some y := by
  rw [List.lookup] at h
  split at h
  · rename_i e
    exact .inl ⟨beq_iff_eq.mp e, (Option.some.inj h).symm⟩
  · exact .inr h
/-- a def of the module, called by place -/
def FnP (K : PySem.W.Frag) (mg : Str → Option Value) (x : Str) (st : Stmt) (ps : List Str) : Prop := ∃ f fd, mg x = some (.ref f) ∧ Fun K x x st f fd ∧ Binds K fd ps []
/-- .. called with keywords -/
def FnKP (K : PySem.W.Frag) (mg : Str → Option Value) (x : Str) (st : Stmt) (ps : List Str) (n : Nat) (ks : List Str) : Prop := ∃ f fd, mg x = some (.ref f) ∧ Fun K x x st f fd ∧ KB K fd ps n ks
/-- a method of the class c (its own or one from above), called so -/
def MthP (K : PySem.W.Frag) (c m qual : Str) (st : Stmt) (ps : List Str) (n : Nat) (ks : List Str) : Prop := ∃ C g fd, ClsAt K c C ∧ Cls K C ∧ Meth K C m g ∧ Fun K m qual st g fd ∧ KB K fd ps n ks
/-- what a def with super() needs: its class at D -/
structure SupF (P : Program) (K : PySem.W.Frag) (mg : Str → Option Value) (f cc cda D : Addr) (slf : Str) : Prop where
  sup : mg "super" = none
  fn : ∃ (oc : Value) (od : Option Addr) (fd : FuncData) (osl : Array (Option Value)) (ar : Arg), K.lookup f = some ⟨oc, od, .func fd, osl⟩ ∧ (fd.params.posonlyargs ++ fd.params.args).head? = some ar ∧ ar.arg = slf
  code : ∃ (oc : Value) (od : Option Addr) (vs : Array Value) (osl : Array (Option Value)) (file : Str) (tf : Tok), K.lookup cda = some ⟨oc, od, .fields vs, osl⟩ ∧ vs[2]? = some (.str file tf) ∧ ((P.main.file : Str) == file) = true
  top : (P.main.scope.names.lookup ("super" : Str)).isSome = false
  cell : ∃ (oc : Value) (od : Option Addr) (osl : Array (Option Value)), K.lookup cc = some ⟨oc, od, .cell (some (.ref D)), osl⟩
  cls : ∃ cd, PySem.W.clsIn K D = some cd
/-- a method with super() -/
def MthS (P : Program) (K : PySem.W.Frag) (mg : Str → Option Value) (c m qual dn : Str) (st : Stmt) (ps : List Str) (n : Nat) (ks : List Str) : Prop := ∃ C g fd cc cda D, ClsAt K c C ∧ Cls K C ∧ Meth K C m g ∧ FunS K m qual st g fd cc cda ∧ SupF P K mg g cc cda D "self" ∧ ClsAt K dn D ∧ KB K fd ps n ks
/-- a class called -/
def MkP (K : PySem.W.Frag) (mg : Str → Option Value) (c qual : Str) (st : Stmt) (ps : List Str) (n : Nat) (ks : List Str) : Prop := ∃ C f fd, ClsAt K c C ∧ mg c = some (.ref C) ∧ Mk K C f ∧ Fun K "__init__" qual st f fd ∧ KB K fd ps (n + 1) ks
def MkS (P : Program) (K : PySem.W.Frag) (mg : Str → Option Value) (c qual dn : Str) (st : Stmt) (ps : List Str) (n : Nat) (ks : List Str) : Prop := ∃ C f fd cc cda D, ClsAt K c C ∧ mg c = some (.ref C) ∧ Mk K C f ∧ FunS K "__init__" qual st f fd cc cda ∧ SupF P K mg f cc cda D "self" ∧ ClsAt K dn D ∧ KB K fd ps (n + 1) ks
/-- super().m of an instance of c, asked in the class dn -/
def SupP (K : PySem.W.Frag) (c dn m qual : Str) (st : Stmt) (ps : List Str) (n : Nat) (ks : List Str) : Prop := ∃ C D g fd, ClsAt K c C ∧ ClsAt K dn D ∧ SupC K C D m g ∧ Fun K m qual st g fd ∧ KB K fd ps n ks
/-- an instance of c called -/
def InsP (K : PySem.W.Frag) (c qual : Str) (st : Stmt) (ps : List Str) (n : Nat) : Prop := ∃ C g fd, ClsAt K c C ∧ CallO K C g ∧ Fun K "__call__" qual st g fd ∧ KB K fd ps n []
def IntP (mg : Str → Option Value) (x : Str) (i : Int) : Prop := ∃ t, mg x = some (.int i t)
def StrP (mg : Str → Option Value) (x y : Str) : Prop := ∃ t, mg x = some (.str y t)
/-- C.f, an int -/
def CatP (K : PySem.W.Frag) (mg : Str → Option Value) (c f : Str) (i : Int) : Prop := ∃ C mc u, mg c = some (.ref C) ∧ CRead K C mc ∧ CVal K C mc f (.int i) u
/-- an own exception class c over B, its field f -/
def ExcP (K : PySem.W.Frag) (mg : Str → Option Value) (c qual f v : Str) (st : Stmt) (B newId initId : String) (bm : List Value) : Prop := ∃ C fI fd, ClsAt K c C ∧ mg c = some (.ref C) ∧ OexB K C B newId initId bm ∧ PySem.W.findIn K (.ref C) "__init__" = some (some (.ref fI)) ∧ PySem.W.typeIn K (.ref fI) = some (.type "function") ∧
  PySem.W.findIn K (.ref C) f = some none ∧ Fun K "__init__" qual st fI fd ∧ Binds K fd ["self", v] [] ∧ PySem.W.findCls K (.type B) (.type "type") "__init__" = some (.val (.builtin initId))
theorem supX_of {P : Program} {w : World} {K : PySem.W.Frag} {mg : Str → Option Value} {base : Heap} {N : List Str} {x qual : Str} {st : Stmt} {cc cda f D : Addr} {A : Around} {outer : List PySem.Env} {s : Shared} {H : Hp} {E : XK} (S : SupF P K mg f cc cda D "self")
    (ks : (supX P w K mg base N x qual st cc cda f A outer s H E).env.kindOf "super" = some .globalImplicit) (kc : (supX P w K mg base N x qual st cc cda f A outer s H E).env.kindOf "__class__" = some .free) (sl : (supX P w K mg base N x qual st cc cda f A outer s H E).env.kindOf "self" = some .local) (n0 : N[0]? = some ("self" : Str)) :
    SupX (supX P w K mg base N x qual st cc cda f A outer s H E) "self" D := by
  obtain ⟨oc, od, fd, osl, ar, e1, e2, e3⟩ := S.fn
  obtain ⟨oc2, od2, vs, osl2, file, tf, c1, c2, c3⟩ := S.code
  obtain ⟨oc3, od3, osl3, d1⟩ := S.cell
  exact ⟨ks, kc, sl, n0, S.sup, ⟨f, oc, od, fd, osl, ar, rfl, e1, e2, e3⟩, ⟨cda, oc2, od2, vs, osl2, file, tf, rfl, c1, c2, c3⟩, S.top, ⟨cc, oc3, od3, osl3, rfl, d1⟩, S.cls⟩
/-- a statement that is never come to -/
theorem sstuck {Y : WX} {X : Cx} {st : Stmt} : PS X st (denS X.K Y stuck) := ⟨fun pins s σ H D I h => by
  obtain ⟨C, W, s, at', p⟩ := h
  exact p.elim⟩
end Dn
/-! Fy: from the rows of Fx to what a walk takes. -/
namespace Dn
open PySem L2 ClX StX NdefX PySem.Spec PyProof.Rows
section
variable {P : Program} {w : World} {K : PySem.W.Frag} {mg : Str → Option Value} {base : Heap} {k : Nat} {x qual c m f v dn : Str} {st : Stmt} {N ps ks : List Str} {n np : Nat} {nn : Nat} {body : Nat → M Fl} {bq : Bool}
abbrev bodyQ (P : Program) (w : World) (K : PySem.W.Frag) (mg : Str → Option Value) (base : Heap) (N : List Str) (qual : Str) (st : Stmt) (f : Addr) (cdv : Value) (A : Around) (outer : List PySem.Env) (s : Shared) (H : Hp) (E : XK) : Cx := cxOf (L2.CX P w) P w K mg base N qual (defScope st) f cdv A outer s H E
/-- a def's promise, its facts first -/
abbrev Pr (P : Program) (w : World) (K : PySem.W.Frag) (mg : Str → Option Value) (base : Heap) (k : Nat) (x qual : Str) (st : Stmt) (ps : List Str) (m : Fn) : Prop := ∀ f fd, Fun K x qual st f fd → FnG P w K mg base (L2.CX P w) k f fd ps (spM K ps.length m)
theorem pr_mk (S : FnScope N ps (defScope st)) (hN : ps.length ≤ N.length)
    (hbody : ∀ (f : Addr) (cdv : Value) (A : Around) (outer : List PySem.Env) (s : Shared) (H : Hp) (E : XK) (n : Nat), (A.deeper (envOfC qual (defScope st) s.heap.objs.size f cdv)).guards = some [] → Room k (A.deeper (envOfC qual (defScope st) s.heap.objs.size f cdv)) →
      Takes (bodyQ P w K mg base N qual st f cdv A outer s H E) (yE E) → PassesOwn (model P w) (bodyQ P w K mg base N qual st f cdv A outer s H E).A (bodyQ P w K mg base N qual st f cdv A outer s H E).env (bodyQ P w K mg base N qual st f cdv A outer s H E).xe →
      PSs (bodyQ P w K mg base N qual st f cdv A outer s H E) (defBody st) (denS K (yE E) (body n))) :
    Pr P w K mg base (k + 1) x qual st ps (fnM ps.length N.length body) := fun f fd F =>
  fn_den F S hN fun cdv A outer s H E n hgd hr tk => hbody f cdv A outer s H E n hgd hr tk (passes_of rfl)
/-- .. of a def with super() -/
abbrev PrS (P : Program) (w : World) (K : PySem.W.Frag) (mg : Str → Option Value) (base : Heap) (k : Nat) (x qual dn : Str) (st : Stmt) (ps : List Str) (m : Fn) : Prop := ∀ f fd cc cda D, FunS K x qual st f fd cc cda → SupF P K mg f cc cda D "self" → ClsAt K dn D → FnG P w K mg base (L2.CX P w) k f fd ps (spM K ps.length m)
theorem prs_mk (S : NScope N ps ["__class__"] (defScope st)) (hN : ps.length ≤ N.length)
    (hbody : ∀ (f cc cda D : Addr), SupF P K mg f cc cda D "self" → ClsAt K dn D → ∀ (A : Around) (outer : List PySem.Env) (s : Shared) (H : Hp) (E : XK) (n : Nat), (supX P w K mg base N x qual st cc cda f A outer s H E).A.guards = some [] → Room k (supX P w K mg base N x qual st cc cda f A outer s H E).A →
      Takes (supX P w K mg base N x qual st cc cda f A outer s H E) (yE E) → PassesOwn (model P w) (supX P w K mg base N x qual st cc cda f A outer s H E).A (supX P w K mg base N x qual st cc cda f A outer s H E).env (supX P w K mg base N x qual st cc cda f A outer s H E).xe →
      PSSA (supX P w K mg base N x qual st cc cda f A outer s H E) (defBody st) (defBody st) (denS K (yE E) (body n))) :
    PrS P w K mg base (k + 1) x qual dn st ps (fnM ps.length N.length body) := fun f fd cc cda D F S1 hc =>
  fn_denS F S hN (hbody f cc cda D S1 hc)
theorem prF (G : Pr P w K mg base k x qual st ps (fnM np nn body)) : Pr P w K mg base k x qual st ps (fnQ false np nn body) := G
theorem prsF (G : PrS P w K mg base k x qual dn st ps (fnM np nn body)) : PrS P w K mg base k x qual dn st ps (fnQ false np nn body) := G
theorem binds_of (hb : KB K fd ps n []) (e : ps.length = n) : Binds K fd ps [] := by
  intro s us X l
  have := hb.to s us [] X (by rw [List.append_nil] at l; omega) rfl
  simpa using this
/-- the rows, filled -/
theorem df_row (G : Pr P w K mg base k x x st ps (fnQ bq np nn body)) (Z : FnP K mg x st ps) (e : ps.length = np) : Df P w K mg base k x ps (fnQ bq np nn body) := by
  obtain ⟨f, fd, hm, F, hb⟩ := Z
  subst e
  exact ⟨⟨f, fd, G f fd F, hm, F.kp, hb⟩, fun n ds st h => fnQ_len h⟩
theorem ent_row (G : Pr P w K mg base k x qual st ps (fnQ bq np nn body)) {g : Addr} {fd : FuncData} (F : Fun K x qual st g fd) (hb : KB K fd ps n ks) (e : ps.length = np) : Ent P w K mg base k g np n ks (fnQ bq np nn body) := by
  subst e
  exact ⟨⟨fd, ps, rfl, G g fd F, hb⟩, fun n ds st h => fnQ_len h⟩
theorem entS_row (G : PrS P w K mg base k x qual dn st ps (fnQ bq np nn body)) {g : Addr} {fd : FuncData} {cc cda D : Addr} (F : FunS K x qual st g fd cc cda) (S : SupF P K mg g cc cda D "self") (hc : ClsAt K dn D) (hb : KB K fd ps n ks) (e : ps.length = np) : Ent P w K mg base k g np n ks (fnQ bq np nn body) := by
  subst e
  exact ⟨⟨fd, ps, rfl, G g fd cc cda D F S hc, hb⟩, fun n ds st h => fnQ_len h⟩
theorem dfk_row (G : Pr P w K mg base k x x st ps (fnQ bq np nn body)) (Z : FnKP K mg x st ps n ks) (e : ps.length = np) : DfK P w K mg base k x np n ks (fnQ bq np nn body) := by
  obtain ⟨f, fd, hm, F, hb⟩ := Z
  exact ⟨⟨f, hm, F.kp, ent_row G F hb e⟩⟩
/-- one row of a table of methods -/
abbrev MRow (P : Program) (w : World) (K : PySem.W.Frag) (mg : Str → Option Value) (base : Heap) (k : Nat) (m : Str) (np n : Nat) (ks : List Str) (c : Str) (mf : Fn) : Prop := ∃ C g, ClsAt K c C ∧ Cls K C ∧ Meth K C m g ∧ Ent P w K mg base k g np n ks mf
theorem mrow (G : Pr P w K mg base k m qual st ps (fnQ bq np nn body)) (Z : MthP K c m qual st ps n ks) {k' : Nat} (hk : k ≤ k') (e : ps.length = np) : MRow P w K mg base k' m np n ks c (fnQ bq np nn body) := by
  obtain ⟨C, g, fd, h1, h2, h3, F, hb⟩ := Z
  exact ⟨C, g, h1, h2, h3, FnG.up (ent_row G F hb e) hk⟩
theorem mrowS (G : PrS P w K mg base k m qual dn st ps (fnQ bq np nn body)) (Z : MthS P K mg c m qual dn st ps n ks) {k' : Nat} (hk : k ≤ k') (e : ps.length = np) : MRow P w K mg base k' m np n ks c (fnQ bq np nn body) := by
  obtain ⟨C, g, fd, cc, cda, D, h1, h2, h3, F, S, hc, hb⟩ := Z
  exact ⟨C, g, h1, h2, h3, FnG.up (entS_row G F S hc hb e) hk⟩
theorem tab0 : TabOk P w K mg base k m np n ks [] := ⟨fun c mf h => by cases h⟩
theorem tabC {mf : Fn} {tab : List (Str × Fn)} (h : MRow P w K mg base k m np n ks c mf) (t : TabOk P w K mg base k m np n ks tab) : TabOk P w K mg base k m np n ks ((c, mf) :: tab) := ⟨fun c' mf' l => by
  rcases look_cons l with ⟨rfl, rfl⟩ | l
  · exact h
  · exact t.ok _ _ l⟩
theorem mk_row (G : Pr P w K mg base k "__init__" qual st ps (fnQ bq np nn body)) (Z : MkP K mg c qual st ps n ks) (e : ps.length = np) : MkK P w K mg base k c np n ks (fnQ bq np nn body) := by
  obtain ⟨C, f, fd, h1, h2, h3, F, hb⟩ := Z
  exact ⟨⟨C, f, h1, h2, h3, ent_row G F hb e⟩⟩
theorem mkS_row (G : PrS P w K mg base k "__init__" qual dn st ps (fnQ bq np nn body)) (Z : MkS P K mg c qual dn st ps n ks) (e : ps.length = np) : MkK P w K mg base k c np n ks (fnQ bq np nn body) := by
  obtain ⟨C, f, fd, cc, cda, D, h1, h2, h3, F, S, hc, hb⟩ := Z
  exact ⟨⟨C, f, h1, h2, h3, entS_row G F S hc hb e⟩⟩
theorem ins0 : InsTab P w K mg base k np n [] := ⟨fun c mf h => by cases h⟩
theorem insC {tab : List (Str × Fn)} (G : Pr P w K mg base k "__call__" qual st ps (fnQ bq np nn body)) (Z : InsP K c qual st ps n) {k' : Nat} (hk : k ≤ k') (e : ps.length = np) (t : InsTab P w K mg base k' np n tab) : InsTab P w K mg base k' np n ((c, fnQ bq np nn body) :: tab) := ⟨fun c' mf' l => by
  rcases look_cons l with ⟨rfl, rfl⟩ | l
  · obtain ⟨C, g, fd, h1, h2, F, hb⟩ := Z
    exact ⟨C, g, h1, h2, FnG.up (ent_row G F hb e) hk⟩
  · exact t.ok _ _ l⟩
theorem sup0 {D : Addr} : SupTab P w K mg base k D m np n ks [] := ⟨fun c mf h => by cases h⟩
theorem supC {D : Addr} {tab : List (Str × Fn)} (hD : ClsAt K dn D) (G : Pr P w K mg base k m qual st ps (fnQ bq np nn body)) (Z : SupP K c dn m qual st ps n ks) {k' : Nat} (hk : k ≤ k') (e : ps.length = np) (t : SupTab P w K mg base k' D m np n ks tab) : SupTab P w K mg base k' D m np n ks ((c, fnQ bq np nn body) :: tab) := ⟨fun c' mf' l => by
  rcases look_cons l with ⟨rfl, rfl⟩ | l
  · obtain ⟨C, D2, g, fd, h1, h2, h3, F, hb⟩ := Z
    cases cls_uniq hD h2
    exact ⟨C, g, h1, h3, FnG.up (ent_row G F hb e) hk⟩
  · exact t.ok _ _ l⟩
theorem kbN {kV doc pm cdv ct : Value} {an : Option Addr}
    (h : ∀ (us ws : List Value), us.length = n → ws.length = ks.length → bindArgs (PySem.W.fnOf x qual (defArgs st) (defBody st) (defScope st) .none kV doc pm an cdv ct) ⟨us, ks.zip ws⟩ = pure (ps.zip (us ++ ws))) : KB K (PySem.W.fnOf x qual (defArgs st) (defBody st) (defScope st) .none kV doc pm an cdv ct) ps n ks :=
  ⟨fun s us ws X l1 l2 => .of_eq (h us ws l1 l2), fun r1 r2 => r1.append r2⟩
theorem kbX {cc : Addr} {kV doc pm cdv ct : Value} {an : Option Addr}
    (h : ∀ (us ws : List Value), us.length = n → ws.length = ks.length → bindArgs (PySem.W.fnX x qual (defArgs st) (defBody st) (defScope st) [("__class__", cc)] .none kV doc pm an cdv ct) ⟨us, ks.zip ws⟩ = pure (ps.zip (us ++ ws))) : KB K (PySem.W.fnX x qual (defArgs st) (defBody st) (defScope st) [("__class__", cc)] .none kV doc pm an cdv ct) ps n ks :=
  ⟨fun s us ws X l1 l2 => .of_eq (h us ws l1 l2), fun r1 r2 => r1.append r2⟩
theorem fld0 : FldOk K f [] := fun c h => by cases h
theorem fldC {C : Addr} {cs : List Str} (h1 : ClsAt K c C) (h2 : Cls K C) (h3 : NoAttr K C f) (t : FldOk K f cs) : FldOk K f (c :: cs) := fun c' h => by
  rcases List.mem_cons.mp h with rfl | h
  · exact ⟨C, h1, h2, h3⟩
  · exact t _ h
theorem con0 {i : Int} : ConOk K f i [] := fun c h => by cases h
theorem conC {C : Addr} {cs : List Str} {i : Int} {u : Value} (h1 : ClsAt K c C) (h2 : Cls K C) (h3 : Con K C f (.int i) u) (t : ConOk K f i cs) : ConOk K f i (c :: cs) := fun c' h => by
  rcases List.mem_cons.mp h with rfl | h
  · exact ⟨C, u, h1, h2, h3⟩
  · exact t _ h
/-- a property of the class c -/
def PrpP (K : PySem.W.Frag) (c m qual : Str) (st : Stmt) : Prop := ∃ C p g fd, ClsAt K c C ∧ Cls K C ∧ PropOf K C m p g ∧ Fun K m qual st g fd ∧ KB K fd ["self"] 1 []
theorem prp0 : PropTab P w K mg base k m [] := ⟨fun c mf h => by cases h⟩
theorem prpC {tab : List (Str × Fn)} (G : Pr P w K mg base k m qual st ["self"] (fnQ bq np nn body)) (Z : PrpP K c m qual st) {k' : Nat} (hk : k ≤ k') (e : 1 = np) (t : PropTab P w K mg base k' m tab) : PropTab P w K mg base k' m ((c, fnQ bq np nn body) :: tab) := ⟨fun c' mf' l => by
  rcases look_cons l with ⟨rfl, rfl⟩ | l
  · obtain ⟨C, p, g, fd, h1, h2, h3, F, hb⟩ := Z
    subst e
    exact ⟨C, h1, h2, p, g, h3, FnG.up (ent_row G F hb rfl) hk⟩
  · exact t.ok _ _ l⟩
end
end Dn
/-! Fz: rows of isinstance, of == of own instances. -/
namespace Dn
open PySem L2 ClX StX NdefX PySem.Spec PyProof.Rows
section
variable {P : Program} {w : World} {K : PySem.W.Frag} {mg : Str → Option Value} {base : Heap} {k np n nn : Nat} {m qual x c c2 dn : Str} {st : Stmt} {ps ks : List Str} {body : Nat → M Fl} {b : Bool} {bq : Bool}
structure Blt7 (r : String → Prop) : Prop where
  a1 : r "NoneType"
  a2 : r "bool"
  a3 : r "int"
  a4 : r "str"
  a5 : r "tuple"
  a6 : r "list"
  a7 : r "dict"
theorem Blt7.all {r : String → Prop} (h : Blt7 r) : ∀ t ∈ blts, r t := by
  intro t ht
  simp only [List.mem_cons, List.not_mem_nil, or_false] at ht
  rcases ht with rfl | rfl | rfl | rfl | rfl | rfl | rfl
  · exact h.a1
  · exact h.a2
  · exact h.a3
  · exact h.a4
  · exact h.a5
  · exact h.a6
  · exact h.a7
theorem iso0 {D : Addr} (h : Blt7 fun t => PySem.W.kitOne K (.type t) (.ref D) = some false) : IsoTab K D [] := ⟨fun c b h => (by cases h), h.all⟩
theorem isoC {C D : Addr} {tab : List (Str × Bool)} (h1 : ClsAt K c C) (h2 : C8.InsC K C) (h3 : PySem.W.kitOne K (.ref C) (.ref D) = some b) (t : IsoTab K D tab) : IsoTab K D ((c, b) :: tab) := ⟨fun c' b' l => by
  rcases look_cons l with ⟨rfl, rfl⟩ | l
  · exact ⟨C, h1, h2, h3⟩
  · exact t.own _ _ l, t.blt⟩
end
end Dn
/-! Ev5: rows of kept exceptions. -/
namespace Dn
open PySem L2 ClX StX PySem.Spec PyProof.Rows
/-! ### isinstance(e, (A, B)) -/
end Dn
/-! St1: defs with a star parameter, classes made with one. -/
namespace Dn
open PySem L2 ClX StX PySem.Spec PyProof.Rows
/-- the promise of def f(a, .., *v), called by place: np values ahead of the star -/
structure FnGS (P : Program) (w : World) (K : PySem.W.Frag) (mg : Str → Option Value) (base : Heap) (CX : CXT) (k : Nat) (f : Addr) (np : Nat) (sp : Sp) : Prop where
  run : ∀ (A : Around) (outer : List PySem.Env) (s : Shared) (H : Hp) (us : List Value) (ws rest : List V) (Q : VK) (E : XK), A.guards = some [] → Room k A → Env0 P w K mg base A outer s H → Vals (ws ++ rest) us → ws.length = np → rest.length ≤ sizeLine →
    (∀ p, H p = none → sp (ws ++ [V.ref p]) (upd H p (.tup rest)) Q E) → codeAny (model P w) A (.call (.ref f) ⟨us, []⟩) (CR CX outer P w H s Q E) s
theorem FnGS.sp {P : Program} {w : World} {K : PySem.W.Frag} {mg : Str → Option Value} {base : Heap} {CX : CXT} {k : Nat} {f : Addr} {np : Nat} {sp sp' : Sp} (F : FnGS P w K mg base CX k f np sp) (h : ∀ vs H Q E, sp' vs H Q E → sp vs H Q E) : FnGS P w K mg base CX k f np sp' :=
  ⟨fun A outer s H us ws rest Q E hgd hr e0 hv hl hz q => F.run A outer s H us ws rest Q E hgd hr e0 hv hl hz fun p hp => h _ _ _ _ (q p hp)⟩
theorem FnGS.lck {P : Program} {w : World} {K : PySem.W.Frag} {mg : Str → Option Value} {base : Heap} {CX : CXT} {k : Nat} {f : Addr} {np : Nat} {sp : Sp} (F : FnGS P w K mg base CX k f np sp) : FnGS P w K mg base CX k f np (fun vs H Q E => sp vs H (lckQ Q) E) := by
  refine ⟨fun A outer s H us ws rest Q E hgd hr e0 hv hl hz q => codeAny_mono (F.run A outer s H us ws rest _ E hgd hr e0 hv hl hz q) fun res s' hq => ?_⟩
  cases res with
  | error e => exact hq
  | ok fl =>
    cases fl with
    | next => exact hq
    | brk => exact hq
    | cont => exact hq
    | ret u =>
      obtain ⟨v, H', os, b, un, ok, rv, S, q⟩ := hq
      exact ce_lock os b un ok rv q
theorem FnGS.mono {P : Program} {w : World} {K : PySem.W.Frag} {mg : Str → Option Value} {base : Heap} {CX : CXT} {j k : Nat} {f : Addr} {np : Nat} {sp : Sp} (F : FnGS P w K mg base CX j f np sp) (h : j ≤ k) : FnGS P w K mg base CX k f np sp :=
  ⟨fun A outer s H us ws rest Q E hg hr => F.run A outer s H us ws rest Q E hg (hr.mono h)⟩
section
variable {CX : CXT} {P : Program} {w : World} {K : PySem.W.Frag} {mg : Str → Option Value} {base : Heap} {k : Nat} {f : Addr} {name qual pv : Str} {params : Arguments} {body : List Stmt} {scope : Scope} {dV kV doc pm cdv ct oc : Value} {an od : Option Addr}
  {osl : Array (Option Value)} {N ps : List Str} {sp : Sp}
theorem fn_starG (lk : K.lookup f = some ⟨oc, od, .func (PySem.W.fnOf name qual params body scope dV kV doc pm an cdv ct), osl⟩) (hcd : PySem.W.codeIn K cdv qual = true) (S : FnScope N (ps ++ [pv]) scope) (hCX : CXUp CX)
    (hb : ∀ us rest : List Value, us.length = ps.length → bindArgs (PySem.W.fnOf name qual params body scope dV kV doc pm an cdv ct) ⟨us ++ rest, []⟩ = (newTuple rest >>= fun t => pure (ps.zip us ++ [(pv, t)])))
    (hbody : ∀ (A : Around) (outer : List PySem.Env) (s : Shared) (H : Hp) (vs : List V) (Q : VK) (E : XK), (A.deeper (envOfC qual scope s.heap.objs.size f cdv)).guards = some [] → Room k (A.deeper (envOfC qual scope s.heap.objs.size f cdv)) → sp vs H Q E →
      ∃ t, PSs (cxOf CX P w K mg base N qual scope f cdv A outer s H E) body t ∧ t { nx := fun _ H' => Q .non H', rt := Q } (L2.start N vs) H) : FnGS P w K mg base CX (k + 1) f ps.length sp := by
  refine ⟨fun A outer s H us ws rest Q E hgd hr e0 r hl hz hq => ?_⟩
  obtain ⟨u1, u2, eu, r1, r2⟩ := vals_split r
  subst eu
  have hn : H s.heap.objs.size = Option.none := e0.hok.fresh (Nat.le_refl _)
  have hl1 : u1.length = ps.length := by rw [← r1.length]; exact hl
  have hl2 : u2.length ≤ sizeLine := by rw [← r2.length]; exact hz
  refine run_bnd (G := fun xs H2 => (A.guards = some []) ∧ ∃ p, H p = Option.none ∧ xs = ws ++ [V.ref p] ∧ H2 = upd H p (.tup rest)) lk hcd S hr e0 (fun A' Ex Q' h => ?_) fun s2 H2 xs ⟨hgd2, p, hp, ex, eH⟩ hr' => ?_
  · rw [hb u1 u2 hl1]
    refine wpAny_bind (wpAny_newTuple (wpAny_pure ?_) hl2)
    have new : ObjOk P w (upd H s.heap.objs.size (.tup rest)) (s.heap.push ({ cls := .type "tuple", data := .seq u2.toArray } : Obj)) s.heap.objs.size (.tup rest) := ⟨hz, u2, r2, ⟨_, Heap.get?_push_size _ rfl, rfl, _, rfl⟩⟩
    have un := un_laid (fs := frs outer) (s := s) (o := ({ cls := .type "tuple", data := .seq u2.toArray } : Obj)) (u := .tup rest) hn
    have z := h _ _ (ws ++ [V.ref s.heap.objs.size]) (u1 ++ [Value.ref s.heap.objs.size]) (env0_laid e0 new) un rfl (fun e s' => hCX outer s H _ _ E e s' un (fun b o q => Heap.get?_push_of_some _ q) rfl) (r1.append (.cons rfl .nil))
      (by rw [List.length_append, List.length_append, hl] <;> rfl) ⟨hgd, _, hn, rfl, rfl⟩
    rw [List.zip_append hl1.symm] at z
    exact z
  · subst ex eH
    exact hbody A outer s2 _ _ Q E hgd2 hr' (hq p hp)
end
end Dn
/-! St2: a class made where __init__ has a star parameter. -/
namespace Dn
open PySem L2 ClX StX PySem.Spec PyProof.Rows
section
variable {Y : WX} {X : Cx} {k : Nat} {f g C : Addr} {x m : Str} {p pos : Pos} {e : Expr} {es : List Expr} {t : TA} {np n i : Nat} {mf : Fn} {ca : M (List PV)} {σ : L2.St} {H : Hp} {Q : VK}
def tMakeSG (X : Cx) (Y : WX) (C : Addr) (i np : Nat) (mf : Fn) (t : TA) : TE := fun σ H Q => t σ H fun vs H1 => ∃ ws rest, vs = ws ++ rest ∧ ws.length = i ∧ rest.length ≤ sizeLine ∧
  ∀ x dx, H1 x = none → H1 dx = none → dx ≠ x → ∀ p, (upd (upd H1 dx (.own x)) x (.ins C dx [])) p = none → spM X.K np mf (.ref x :: (ws ++ [.ref p])) (upd (upd (upd H1 dx (.own x)) x (.ins C dx [])) p (.tup rest)) (fun v H3 => v = .non ∧ Q (.ref x) H3) (WE Y σ)
theorem run_makeSG {pins : List (Addr × Obj)} {s : Shared} {us : List Value} {ws rest : List V} (M : Mk X.K C f) (F : FnGS X.prog X.w X.K X.mg X.base (L2.CX X.prog X.w) k f (i + 1) (spM X.K np mf)) (hgd : X.A.guards = some []) (hr : Room (k + 1) X.A) (tY : Takes X Y)
    (I : Inv X pins σ H s) (r : Vals (ws ++ rest) us) (l1 : ws.length = i) (lz : rest.length ≤ sizeLine)
    (h : ∀ x dx, H x = none → H dx = none → dx ≠ x → ∀ p, (upd (upd H dx (.own x)) x (.ins C dx [])) p = none → spM X.K np mf (.ref x :: (ws ++ [.ref p])) (upd (upd (upd H dx (.own x)) x (.ins C dx [])) p (.tup rest)) (fun v H3 => v = .non ∧ Q (.ref x) H3) (WE Y σ)) :
    wpAny (model X.prog X.w) X.A (call (.ref C) us []) (EP X pins σ Q) X.xe s := by
  have n0 : H s.heap.objs.size = none := I.hok.fresh (Nat.le_refl _)
  have n1 : H (s.heap.objs.size + 1) = none := I.hok.fresh (Nat.le_succ _)
  have want := h (s.heap.objs.size + 1) s.heap.objs.size n1 n0 (Nat.ne_of_lt (Nat.lt_succ_self _))
  have J := Inv.made (C := C) I
  have rS : Vals ((V.ref (s.heap.objs.size + 1) :: ws) ++ rest) (Value.ref (s.heap.objs.size + 1) :: us) := .cons rfl r
  have go := F.run _ X.stack _ _ (Value.ref (s.heap.objs.size + 1) :: us) _ _ _ _ (guards_under hgd) (hr.make C us []) (J.env0.make C us []) rS (by rw [List.length_cons, l1]) lz want
  refine wpAny_call (make_map (f := f) I.kIn M.makes M.init (beq_iff_eq.mp M.fn) ?_)
  refine codeAny_mono go fun res s' hq => ?_
  match res, hq with
  | .error e, hq => exact passAt tY σ pins _ _ e s' J hq
  | .ok (.ret u), hq =>
    obtain ⟨v, H', J', rv, ev, q'⟩ := J.after hq
    subst ev
    exact ⟨rv, V.ref (s.heap.objs.size + 1), H', J', rfl, q'⟩
  | .ok .next, hq => exact False.elim hq
  | .ok .brk, hq => exact False.elim hq
  | .ok .cont, hq => exact False.elim hq
theorem pe_makeSG (M : Mk X.K C f) (F : FnGS X.prog X.w X.K X.mg X.base (L2.CX X.prog X.w) k f (i + 1) (spM X.K np mf)) (hgd : X.A.guards = some []) (hr : Room (k + 1) X.A) (tY : Takes X Y) (hg : Gl X x) (hm : X.mg x = some (.ref C)) (ha : PA X (e :: es) t) (hdb : (x == ("__debug__" : Str)) = false := by decide)
    (he : starEach (e :: es) X.env = (false, eval e X.env) :: starEach es X.env := by rfl) :
    PE X (.Call (.Name x p) (e :: es) [] pos) (tMakeSG X Y C i np mf t) := by
  refine ⟨fun pins s σ H Q I h => wpAny_Call_Name_kw (ld_glob I hg hm ?_ hdb)⟩
  refine callWith_KA M.kp rfl (thn (ha.run pos pins s σ H _ I h) ?_) he
  rintro us s1 ⟨vs, H1, I1, r, ws, rest, ev, l1, lz, q⟩
  subst ev
  show wpAny _ _ (evalAll []) _ _ _
  refine wpAny_pure ?_
  exact ⟨I1.kIn, run_makeSG M F hgd hr tY I1 r l1 lz q⟩
end
/-- the values ahead of the star, the rest as a tuple -/
def starA (i : Nat) (ca : M (List PV)) : M (List PV) := bnd ca fun ds => if i ≤ ds.length ∧ ds.length - i ≤ sizeLine then ret (ds.take i ++ [.tup (ds.drop i)]) else stuck
theorem den_makeS {X : Cx} {Y : WX} {Cc : Addr} {c : Str} {i np n : Nat} {mf : Fn} {ca : M (List PV)} {σ : L2.St} {H : Hp} {Q : VK} (hc : ClsAt X.K c Cc) (hl : ∀ n ds st, mf n ds st ≠ .stk → ds.length = np)
    (h : den X.K Y (makeM c mf n (starA i ca)) σ H Q) : tMakeSG X Y Cc i np mf (denA X.K Y ca) σ H Q := by
  obtain ⟨C, W, s, at', p⟩ := h
  have p0 := Pst.bnd (Pst.bnd p)
  refine ⟨C, W, s, at', p0.imp fun ds s2 W2 H2 l2 a2 p1 vs r => ?_⟩
  by_cases hi : i ≤ ds.length ∧ ds.length - i ≤ sizeLine
  · rw [if_pos hi] at p1
    have p2 := p1 W2 H2 (Vw.Le.refl _) a2
    refine ⟨vs.take i, vs.drop i, (List.take_append_drop i vs).symm, by rw [List.length_take, r.length]; omega, by rw [List.length_drop, r.length]; exact hi.2, fun x dx hx hd ne p hp => ?_⟩
    obtain ⟨le, a3, rx⟩ := a2.newI hx hd ne hc
    obtain ⟨W4, l4, a4, rt⟩ := a3.layT hp ((r.drop i).mono le)
    have hlen : s2.sto.length = W2.hs.length := a2.ok.len
    have hkx : (W2.hs ++ [x, dx])[s2.sto.length]? = some x := by rw [hlen]; exact two_0
    have hkx4 : W4.hs[s2.sto.length]? = some x := l4.pre _ _ hkx
    have le4 : W2.Le W4 := le.trans l4
    have rep : Reps X.K W4 (.ref x :: (vs.take i ++ [.ref p])) (.hnd s2.sto.length :: (ds.take i ++ [.tup (ds.drop i)])) := .cons (rx.mono l4) (((r.take i).mono le4).append (.cons rt .nil))
    have len : ∀ {z : RR}, mf n (.hnd s2.sto.length :: (ds.take i ++ [.tup (ds.drop i)])) (s2.sto ++ [.ins c [] [], .own s2.sto.length]) = z → z ≠ .stk → (V.ref x :: (vs.take i ++ [.ref p])).length = np := fun {z} e q => by rw [rep.length]; exact hl _ _ _ (by rw [e]; exact q)
    cases e : mf n (.hnd s2.sto.length :: (ds.take i ++ [.tup (ds.drop i)])) (s2.sto ++ [.ins c [] [], .own s2.sto.length]) with
    | stk => simp only [e] at p2; exact p2.elim
    | exc z st' =>
      simp only [e] at p2
      refine ⟨len e (fun z => nomatch z), n, _, _, _, a4.ok, rep, ?_⟩
      rw [e]
      exact fun W' H' cls d l ok g r => p2 W' σ H' cls d (le4.trans l) (a4.call l ok g) r
    | ok d st' =>
      simp only [e] at p2
      cases d <;> try exact p2.elim
      refine ⟨len e (fun z => nomatch z), n, _, _, _, a4.ok, rep, ?_⟩
      rw [e]
      intro v W' H' l ok g rv
      cases rv
      refine ⟨rfl, ?_⟩
      have a5 := a4.call l ok g
      have hx' : W'.hs[s2.sto.length]? = some x := l.pre _ _ hkx4
      dsimp only at p2
      split at p2
      · rename_i c' ks' vs' j e1 e2
        split at p2
        · rename_i hj
          subst hj
          obtain ⟨W5, l5, a6, r5⟩ := a5.done (by rw [hlen]; exact a2.hs_le) hx' e1 e2
          exact p2 W5 H' (le4.trans (l.trans l5)) a6 _ r5
        · exact p2.elim
      · exact p2.elim
  · rw [if_neg hi] at p1
    exact p1.elim
end Dn
/-! St3: for a, b in .., enumerate over tuples and lists. -/
namespace PySem
open Sem (wp)
set_option maxHeartbeats 1000000 in
theorem dn_meets_enum {v : Value} {o : Obj} {H : Heap → Prop} (B : Begins v o H) :
    Meets (Builtin.«enumerate.__new__» ⟨[.type "enumerate", v], []⟩) (fun _ R s => H s.heap ∧
      R (.ok (.ret (.ref (s.heap.push o).objs.size))) { s with heap := (s.heap.push o).push { cls := .type "enumerate", data := .fields #[.none, .bool false, .ref s.heap.objs.size, rawInt 0, .none, .none] } }) :=
  .of_wp fun prog w A R s h => by
    obtain ⟨hp, g, d, tk, os⟩ := s; obtain ⟨h1, h⟩ := h
    have hsub := sub_enumerate
    have q1 : ∀ {A' : Around} {E : Value → Shared → Prop} {Q : Value → Shared → Prop}, Q (.ref hp.objs.size) ⟨hp.push o, g, d, tk, os⟩ → wpAny (model prog w) A' (pyIter v) Q E ⟨hp, g, d, tk, os⟩ :=
      fun q => B.iter prog w _ _ ⟨hp, g, d, tk, os⟩ _ h1 q
    wp_walk using q1
    refine wpAny_stack_any fun st => wpAny_pure ?_
    split
    · rename_i c _ _ _ _ _
      cases (c == Value.type "enumerate")
      · wp_walk using q1
        exact ⟨_, rfl, h⟩
      · wp_walk using q1
        exact ⟨_, rfl, h⟩
    · wp_walk using q1
      exact ⟨_, rfl, h⟩
theorem dn_call_enum {prog : Program} {w : World} {A : Around} {E : Value → Shared → Prop} {s : Shared} {v : Value} {o : Obj} {H : Heap → Prop} {Q : Value → Shared → Prop} (B : Begins v o H) (h1 : H s.heap)
    (h : ∀ h', IsEnum h' (s.heap.objs.size + 1) s.heap.objs.size 0 .none → h'.get? s.heap.objs.size = some o → h'.objs.size = s.heap.objs.size + 2 →
      (∀ b o, s.heap.get? b = some o → h'.get? b = some o) → Q (.ref (s.heap.objs.size + 1)) { s with heap := h' }) :
    wpAny (model prog w) A (call (.type "enumerate") [v]) Q E s := by
  refine callType_new F.called_enumerate (by decide) (F.typeCall_enumerate_1 _) (F.newCall_enumerate_1 _) (fun obj => F.args_object_init_2 obj _) F.entry_enumerate_new
    (dn_meets_enum B) ⟨h1, ?_⟩
  have hz : (s.heap.push o).objs.size = s.heap.objs.size + 1 := Heap.size_push ..
  show _ ∧ _
  rw [hz]
  have he : IsEnum ((s.heap.push o).push { cls := .type "enumerate", data := .fields #[.none, .bool false, .ref s.heap.objs.size, rawInt 0, .none, .none] }) (s.heap.objs.size + 1) s.heap.objs.size 0 .none := by
    have := Heap.get?_push_size (s.heap.push o) (o := { cls := .type "enumerate", data := .fields #[.none, .bool false, .ref s.heap.objs.size, rawInt 0, .none, .none] }) rfl
    rw [hz] at this; exact this
  refine ⟨⟨_, he, rfl⟩, h _ he (Heap.get?_push_of_some _ (Heap.get?_push_size _ B.free)) (by rw [Heap.size_push, hz]) fun b o x => Heap.get?_push_of_some _ (Heap.get?_push_of_some _ x)⟩
end PySem
namespace Dn
open PySem L2 ClX StX PySem.Spec PyProof.Rows
/-- the tuple at a, each item in a new pair -/
def IteT (K : PySem.W.Frag) (a : Addr) : It :=
  ⟨fun i H => ∃ (xs : List V) (x : V), SqT K H a xs ∧ xs[i]? = some x, fun i H v H' => ∃ T x, v = .ref T ∧ H T = none ∧ H' = upd H T (.tup [.int (i : Nat), x]) ∧ ∀ xs, SqT K H a xs → xs[i]? = some x, fun i H => ∃ xs : List V, SqT K H a xs ∧ xs.length ≤ i⟩
theorem turn_enumT {P : Program} {w : World} {K : PySem.W.Frag} {elts : List Expr} {kk : Nat} {tpos : Pos} (a e it : Addr) :
    Turn P w K (.Tuple elts kk tpos) (IteT K a) [e, it] e (fun i h => (∃ old, IsEnum h e it ((i : Nat) : Int) old) ∧ h.IsTupleIter it a i ∧ e ≠ it) where
  mem := by simp
  obj := fun i h st b hb => by
    obtain ⟨⟨old, he⟩, ⟨o, ho, hc, hd⟩, _⟩ := st
    have e' : b = e ∨ b = it := by simpa using hb
    rcases e' with z | z
    · rw [z]; exact ⟨_, he, fun v q => nomatch q⟩
    · rw [z]; exact ⟨o, ho, fun v q => by rw [hd] at q; cases q⟩
  keep := fun i h h' st k => let ⟨⟨old, he⟩, hi, hne⟩ := st; ⟨⟨old, k e (by simp) _ he⟩, hi.at fun o q => k it (by simp) o q, hne⟩
  item := by
    intro X hP hw hK hc i pins s σ H E I hf st hg
    subst hP hw hK
    obtain ⟨⟨old, he⟩, hit, hne⟩ := st
    obtain ⟨xs, x, hq, hx⟩ := hg
    obtain ⟨its, rv, p, hz⟩ := I.tuple hq
    obtain ⟨u, hu, ru⟩ := rv.get hx
    have hel : e < s.heap.objs.size := Heap.lt_size he
    have hil : it < s.heap.objs.size := by obtain ⟨_, q, _⟩ := hit; exact Heap.lt_size q
    have hh : X.A.in1.handled = none := I.ok.hd hc
    have pt : s.heap.IsTuple a its.toArray := p
    have hai : a ≠ it := fun z => by
      obtain ⟨o1, h1, c1, d1⟩ := hit
      obtain ⟨o2, h2, c2, _⟩ := pt
      rw [z, h1] at h2
      cases h2
      rw [c1] at c2
      exact absurd c2 (by decide)
    have hae : e ≠ a := fun z => by
      obtain ⟨o2, h2, c2, _⟩ := pt
      have he' : s.heap.get? e = _ := he
      rw [z, h2] at he'
      cases he'
      have c3 : Value.type "enumerate" = Value.type "tuple" := c2
      exact absurd c3 (by decide)
    have hlt : i < its.toArray.size := by
      have := (List.getElem?_eq_some_iff.mp hu).1
      simpa using this
    refine wpAny_pyNext_enum_itemD (Draws.tuple hh it a hai its.toArray) he ⟨hit, pt⟩ hlt hne (by simp only [List.mem_cons, not_or]; exact ⟨hne, hae, fun z => nomatch z⟩) fun y h' tk hy ho hit' hT hsz hk => ?_
    have ey : y = u := by
      have hy : its.toArray[i]? = some y := hy
      rw [List.getElem?_toArray, hu] at hy
      exact (Option.some.inj hy).symm
    subst ey
    refine ⟨_, rfl, wpAny_letOwnedTupleGo_enum (s := { s with heap := h', toks := tk + 1 }) ho fun h'' he' sb => ?_⟩
    have hT2 : h''.get? s.heap.objs.size = some { cls := .type "tuple", data := .seq #[.int i tk, y] } := (sb.2 _ (Nat.ne_of_gt hel)).trans hT
    have new : ObjOk X.prog X.w (upd H s.heap.objs.size (.tup [.int (i : Nat), x])) h'' s.heap.objs.size (.tup [.int (i : Nat), x]) :=
      ⟨by show 2 ≤ sizeLine; decide, [.int i tk, y], .cons ⟨_, rfl⟩ (.cons ru .nil), ⟨_, hT2, rfl, _, rfl⟩⟩
    have I1 : Inv X pins σ (upd H s.heap.objs.size (.tup [.int (i : Nat), x])) { s with heap := h'', toks := tk + 1 } :=
      I.turnedNew (ch := [e, it]) (fun b ob hb q => (sb.2 b (fun z => hb (by simp [z]))).trans (hk b ob (fun z => hb (by simp [z])) (fun z => hb (by simp [z])) q)) hf (Nat.le_refl _) new
    refine ⟨.ref s.heap.objs.size, _, I1, rfl, ⟨_, x, rfl, I.hok.fresh (Nat.le_refl _), rfl, fun ys hy => by rw [I.tuple_inj hy hq]; exact hx⟩, ⟨⟨y, ?_⟩, hit'.1.at fun o q => (sb.2 it (Ne.symm hne)).trans q, hne⟩, fun b hb => ?_⟩
    · have e1 : ((i + 1 : Nat) : Int) = (i : Int) + 1 := by omega
      rw [e1]; exact he'
    · have hb' : b < s.heap.objs.size := by
        have e' : b = e ∨ b = it := by simpa using hb
        rcases e' with z | z
        · rw [z]; exact hel
        · rw [z]; exact hil
      rw [upd_ne (Nat.ne_of_lt hb')]
      exact (hf b hb).1
  done := by
    intro X hP hw hK hc i pins s σ H E I hf st hg
    subst hP hw hK
    obtain ⟨⟨old, he⟩, hit, hne⟩ := st
    obtain ⟨xs, hq, hx⟩ := hg
    obtain ⟨its, rv, p, hz⟩ := I.tuple hq
    obtain ⟨f0, f1, f2, f3, f4, f5⟩ := hf it (by simp)
    have hl := rv.length
    have hh : X.A.in1.handled = none := I.ok.hd hc
    have pt : s.heap.IsTuple a its.toArray := p
    have hT : s.TypeIs (.ref e) "enumerate" := ⟨_, he, rfl⟩
    unfold pyNext
    refine wpAny_bind (wpAny_attempt (wpAny_callSpecial?_slot (name := Str.ofString "__next__") hT F.slot_enumerate_next
      (wpAny_call_entry F.slot_enumerate_next hT F.entry_enumerate_next ?_ (F.args_enumerate_next_1 _))))
    show wpAny _ _ (field (.ref e) 2 >>= _) _ _ _
    refine wpAny_bind (wpAny_field he rfl (x := .ref it) rfl ?_)
    refine wpAny_bind (wpAny_nextOf_tuple_end hh hit pt (by simp; omega) fun h' x he' hx' => ?_)
    obtain ⟨o, ho, hc'⟩ := hx'
    refine wpAny_bind (wpAny_isInstance (T := "StopIteration") (b := true) ⟨o, ho, hc'⟩ isSubtype_stop ?_)
    exact wpAny_pure ⟨rfl, I.turned (t' := s.toks) (fun b o hb q => he' b o hb q) f0 f1 f3 f4 f5⟩
  self := fun A i s Q E st h => let ⟨⟨_, he⟩, _⟩ := st; wpAny_pyIter_enum he h
def iEnumT (K : PySem.W.Frag) (ta : TA) : TI := fun σ H R => ta σ H fun vs H1 => ∃ a xs, vs = [.ref a] ∧ SqT K H1 a xs ∧ R (IteT K a) H1
theorem pi_enumT {X : Cx} {e : Expr} {ta : TA} {p pos tpos : Pos} {elts : List Expr} {kk : Nat} (hg : Gl X "enumerate") (hm : X.mg "enumerate" = none) (ha : PA X [e] ta) (hs : starEach [e] X.env = [(false, eval e X.env)] := by rfl) :
    PI X (.Tuple elts kk tpos) (.Call (.Name "enumerate" p) [e] [] pos) (iEnumT X.K ta) := by
  refine ⟨fun pins s σ H R I h => ?_⟩
  refine Call_ (ld_blt I hg hm boot_enumerate (PyProof.Rows.callWith_type1 (thn (ha.run pos pins s σ H _ I h) fun us s1 ⟨vs, H1, I1, r1, q1⟩ => ?_) hs rfl))
  obtain ⟨a, xs, ex, hq, q⟩ := q1
  subst ex
  cases r1 with
  | cons r rr =>
    cases rr
    cases r
    obtain ⟨its, rv, p', hz⟩ := I1.tuple hq
    have pt : s1.heap.IsTuple a its.toArray := p'
    refine dn_call_enum (begins_tuple a its.toArray) pt fun h' he hit hsz hk => wpAny_pyIter_enum he ?_
    have I2 : Inv X pins σ H1 { s1 with heap := h' } := I1.kept (t' := s1.toks) hk
    refine ⟨s1.heap.objs.size + 1, [s1.heap.objs.size + 1, s1.heap.objs.size], _, _, H1, rfl, I2, turn_enumT a (s1.heap.objs.size + 1) s1.heap.objs.size, ⟨⟨.none, he⟩, ⟨_, hit, rfl, rfl⟩, Nat.succ_ne_self _⟩, fun b hb => ?_, q⟩
    have e' : b = s1.heap.objs.size + 1 ∨ b = s1.heap.objs.size := by simpa using hb
    have hle : s1.heap.objs.size ≤ b := by
      rcases e' with z | z
      · rw [z]; exact Nat.le_add_right _ _
      · rw [z]; exact Nat.le_refl _
    exact I1.fpOk hle (I1.hok.fresh hle)
/-! ### enumerate as a source -/
section
variable {Y : WX} {K : PySem.W.Frag} {C : Ctx} {W W' : Vw} {σ : L2.St} {H : Hp} {s : S} {D : Ends} {ca : M PV} {fa : M Fl}
def enumL : Nat → List PV → List PV
  | _, [] => []
  | k, x :: r => .tup [.int (k : Nat), x] :: enumL (k + 1) r
theorem enumL_length : ∀ (xs : List PV) (k : Nat), (enumL k xs).length = xs.length
  | [], _ => rfl
  | _ :: r, k => congrArg Nat.succ (enumL_length r (k + 1))
theorem enumL_get : ∀ (xs : List PV) (k i : Nat) (d : PV), xs[i]? = some d → (enumL k xs)[i]? = some (.tup [.int ((k + i : Nat)), d])
  | [], _, i, _, h => by simp at h
  | x :: r, k, 0, d, h => by
    simp at h
    subst h
    rfl
  | x :: r, k, i + 1, d, h => by
    have h : r[i]? = some d := by simpa using h
    show (enumL (k + 1) r)[i]? = _
    rw [enumL_get r (k + 1) i d h]
    have : k + 1 + i = k + (i + 1) := by omega
    rw [this]
def enumP : PV → Option (List PV)
  | .lst xs => some (enumL 0 xs)
  | .tup xs => some (enumL 0 xs)
  | _ => none
def enumM (c : M PV) : M (List PV) := bnd c fun d => lft (enumP d)
theorem walks_enum {a : Addr} {vs : List V} {ds : List PV} (h : W.F a = some (.lst vs)) (r : Reps K W vs ds) : Walks K (Ite K a) W (enumL 0 ds) where
  go := fun {C W' s σ H i} l at' hi => by
    rw [enumL_length] at hi
    have e := at'.ok.sub _ _ (l.ex _ _ h)
    have hi' : i < vs.length := by rw [r.length]; exact hi
    exact ⟨vs, vs[i], SqL.of e, List.getElem?_eq_getElem hi'⟩
  yld := fun {C W' s σ H H' i x} l at' hi y => by
    obtain ⟨T, z, rfl, hT, rfl, hz⟩ := y
    have e := at'.ok.sub _ _ (l.ex _ _ h)
    have hx := hz vs (SqL.of e)
    obtain ⟨d, h1, h2⟩ := r.getV hx
    obtain ⟨W2, l2, a2, r2⟩ := at'.layT hT (Reps.cons (.int (i : Nat)) (.cons (h2.mono l) .nil))
    exact ⟨_, W2, (by rw [enumL_get ds 0 i d h1, Nat.zero_add]), l2, a2, r2⟩
  stop := fun {C W' s σ H i} l at' hi => ⟨vs, SqL.of (at'.ok.sub _ _ (l.ex _ _ h)), by rw [enumL_length] at hi; rw [r.length]; exact hi⟩
theorem walks_enumT {a : Addr} {vs : List V} {ds : List PV} (h : SqT K W.F a vs) (r : Reps K W vs ds) : Walks K (IteT K a) W (enumL 0 ds) where
  go := fun {C W' s σ H i} l at' hi => by
    rw [enumL_length] at hi
    have e := same_t at'.ok.sub (same_t l.ex h)
    have hi' : i < vs.length := by rw [r.length]; exact hi
    exact ⟨vs, vs[i], e, List.getElem?_eq_getElem hi'⟩
  yld := fun {C W' s σ H H' i x} l at' hi y => by
    obtain ⟨T, z, rfl, hT, rfl, hz⟩ := y
    have e := same_t at'.ok.sub (same_t l.ex h)
    have hx := hz vs e
    obtain ⟨d, h1, h2⟩ := r.getV hx
    obtain ⟨W2, l2, a2, r2⟩ := at'.layT hT (Reps.cons (.int (i : Nat)) (.cons (h2.mono l) .nil))
    exact ⟨_, W2, (by rw [enumL_get ds 0 i d h1, Nat.zero_add]), l2, a2, r2⟩
  stop := fun {C W' s σ H i} l at' hi => ⟨vs, same_t at'.ok.sub (same_t l.ex h), by rw [enumL_length] at hi; rw [r.length]; exact hi⟩
def iEn (K : PySem.W.Frag) (ta : TA) : TI := fun σ H R => iEnum K ta σ H R ∨ iEnumT K ta σ H R
theorem src_enum : SrcOk Y (iEn K (tCons (den K Y ca) tNil)) K (enumM ca) := by
  intro σ H R ⟨C, W, s, at', p⟩
  have p := Pst.bnd p
  cases e : ca s with
  | exc _ _ => exact .inl ⟨C, W, s, at', by rw [e] at p ⊢; exact p⟩
  | stk => rw [e] at p; exact p.elim
  | ok d s1 =>
    cases d with
    | lst xs =>
      refine .inl ⟨C, W, s, at', ?_⟩
      rw [e] at p ⊢
      intro W1 H1 l1 at1 v rv
      have p1 := p W1 H1 l1 at1 W1 H1 (Vw.Le.refl _) at1
      cases rv with
      | lst hx rx => exact ⟨_, _, rfl, SqL.of (at1.ok.sub _ _ hx), p1 _ (walks_enum hx rx)⟩
    | tup xs =>
      refine .inr ⟨C, W, s, at', ?_⟩
      rw [e] at p ⊢
      intro W1 H1 l1 at1 v rv
      have p1 := p W1 H1 l1 at1 W1 H1 (Vw.Le.refl _) at1
      cases rv with
      | tup hx rx => exact ⟨_, _, rfl, same_t at1.ok.sub hx, p1 _ (walks_enumT hx rx)⟩
    | _ =>
      refine .inl ⟨C, W, s, at', ?_⟩
      rw [e] at p ⊢
      intro W1 H1 l1 at1
      exact (p W1 H1 l1 at1).elim
theorem ienum {X : Cx} {e : Expr} {ce : M PV} {p pos tpos : Pos} {elts : List Expr} {kk : Nat} (hm : X.mg "enumerate" = none) (h : PE X e (den X.K Y ce)) (hg : Gl X "enumerate" := by rfl) (hs : starEach [e] X.env = [(false, eval e X.env)] := by rfl) :
    PI X (.Tuple elts kk tpos) (.Call (.Name "enumerate" p) [e] [] pos) (iEn X.K (tCons (den X.K Y ce) tNil)) := ⟨fun pins s σ H R I q => by
  rcases q with q | q
  · exact (pi_enum hg hm (pa_cons h pa_nil hs) hs).run pins s σ H R I q
  · exact (pi_enumT hg hm (pa_cons h pa_nil hs) hs).run pins s σ H R I q⟩
/-! ### for a, b in .. -/
def forU (is : List Nat) (body : M Fl) : List PV → M Fl
  | [] => ret .nx
  | .tup ds :: r => fun s => if ds.length = is.length then (match setAll is ds s with
    | .ok .nx s1 => (match body s1 with
      | .ok .nx s' => forU is body r s'
      | .ok .ct s' => forU is body r s'
      | .ok .bk s' => .ok .nx s'
      | .ok (.rt d) s' => .ok (.rt d) s'
      | .ok (.ro d) s' => .ok (.ro d) s'
      | .exc e s' => .exc e s'
      | .stk => .stk)
    | _ => .stk) else .stk
  | _ :: _ => stuck
def loopU (cs : M (List PV)) (is : List Nat) (body : M Fl) : M Fl := bnd cs fun xs => forU is body xs
theorem den_setAllQ {Q : L2.St → Hp → Prop} : ∀ (is : List Nat) (ds : List PV) {C : Ctx} {W : Vw} {s : S} {σ : L2.St} {H : Hp} {vs : List V}, At K C W s σ H → Reps K W vs ds → (match setAll is ds s with | .ok .nx s1 => ∀ σ', At K C W s1 σ' H → Q σ' H | _ => False) → gNs is vs σ H Q
  | [], [], C, W, s, σ, H, vs, a, r, p => by
    cases r
    exact ⟨rfl, p σ a⟩
  | i :: is, d :: ds, C, W, s, σ, H, vs, a, r, p => by
    cases r with
    | cons r rs => exact ⟨_, _, rfl, den_setAllQ is ds (a.set r i) rs p⟩
  | [], _ :: _, _, _, _, _, _, _, _, _, p => p.elim
  | _ :: _, [], _, _, _, _, _, _, _, _, p => p.elim
theorem den_forU {wi : TI} {is : List Nat} {cs : M (List PV)} (hw : SrcOk Y wi K cs) (h : denS K Y (loopU cs is fa) D σ H) : tFor wi (gTup K is.length (gNs is)) (denS K Y fa) D σ H := by
  obtain ⟨C, W, s, at', p⟩ := h
  refine hw σ H _ ⟨C, W, s, at', (PstS.bnd p).imp fun xs s1 W1 H1 l1 at1 p1 J wk => ?_⟩
  refine ⟨fun k m σ H => k ≤ xs.length ∧ m = xs.length - k ∧ ∃ s2 W2, W1.Le W2 ∧ At K (C.wi Y) W2 s2 σ H ∧ PstS K (C.wi Y) W2 D (forU is fa (xs.drop k) s2), ⟨xs.length, Nat.zero_le _, by simp, s1, W1, Vw.Le.refl _, at1, p1⟩, ?_⟩
  rintro k m σ2 H2 ⟨hk, rfl, s2, W2, l2, at2, p2⟩
  by_cases hlt : k < xs.length
  · refine .inr ⟨wk.go l2 at2 hlt, fun σ' H' => ∃ s2 W2, W1.Le W2 ∧ At K (C.wi Y) W2 s2 σ' H' ∧ PstS K (C.wi Y) W2 D (forU is fa (xs.drop (k + 1)) s2), fun σ' H' q => ⟨xs.length - (k + 1), by omega, hlt, rfl, q⟩, fun x H' y => ?_⟩
    obtain ⟨d, W3, hd, l3, at3, rd⟩ := wk.yld l2 at2 hlt y
    have hdrop : xs.drop k = d :: xs.drop (k + 1) := by
      obtain ⟨h1, h2⟩ := List.getElem?_eq_some_iff.mp hd
      rw [List.drop_eq_getElem_cons h1, h2]
    rw [hdrop] at p2
    have p3 := p2.up l3
    cases d with
    | tup ds =>
      unfold forU at p3
      by_cases hl : ds.length = is.length
      · simp only [hl, if_true] at p3
        cases rd with
        | tup hq rs =>
          refine ⟨_, _, rfl, same_t at3.ok.sub hq, by rw [rs.length]; exact hl, den_setAllQ _ _ at3 rs ?_⟩
          cases e0 : setAll is ds s2 with
          | exc _ _ => simp only [e0] at p3; exact p3.elim
          | stk => simp only [e0] at p3; exact p3.elim
          | ok fl0 s3 =>
            cases fl0 with
            | rt _ => simp only [e0] at p3; exact p3.elim
            | ro _ => simp only [e0] at p3; exact p3.elim
            | bk => simp only [e0] at p3; exact p3.elim
            | ct => simp only [e0] at p3; exact p3.elim
            | nx =>
              simp only [e0] at p3
              intro σ' a4
              refine ⟨C, W3, s3, a4, ?_⟩
              cases e : fa s3 with
              | exc _ _ => simp only [e] at p3; exact p3
              | stk => simp only [e] at p3; exact p3.elim
              | ok fl s4 =>
                simp only [e] at p3
                cases fl with
                | nx => exact fun W4 σ4 H4 l4 at4 => ⟨s4, W4, (l2.trans l3).trans l4, at4, p3.up l4⟩
                | ct => exact fun W4 σ4 H4 l4 at4 => ⟨s4, W4, (l2.trans l3).trans l4, at4, p3.up l4⟩
                | bk => exact fun W4 σ4 H4 l4 at4 => p3 W4 σ4 H4 l4 at4
                | rt r => exact fun W4 σ4 H4 l4 at4 => p3 W4 σ4 H4 l4 at4
                | ro r => exact fun W4 σ4 H4 l4 at4 => p3 W4 σ4 H4 l4 at4
      · simp only [hl, if_false] at p3
        exact p3.elim
    | _ => unfold forU at p3; exact p3.elim
  · have e : k = xs.length := by omega
    subst e
    rw [List.drop_length] at p2
    exact .inl ⟨wk.stop l2 at2 (Nat.le_refl _), p2 W2 σ2 H2 (Vw.Le.refl _) at2⟩
theorem sforU (is : List Nat) {X : Cx} {pt pos : Pos} {kt : Nat} {es : List Expr} {wi : TI} {cs : M (List PV)} {iter : Expr} {sa : List Stmt} (hc : X.calm = true) (hp : PassesOwn (model X.prog X.w) X.A X.env X.xe) (hi : PI X (.Tuple es kt pt) iter wi) (hw : SrcOk Y wi X.K cs) (hg : PGs X es (gNs is)) (hb : PSs X sa (denS X.K Y fa))
    (hn : (assignEach es X.env).length = is.length := by rfl) (hst : (assignEach es X.env).findIdx? (·.1) = none := by rfl) (hs : ∀ x, foldedSetIterable iter X.env x = pure x := by intro _; rfl) :
    PS X (.For (.Tuple es kt pt) iter sa [] pos) (denS X.K Y (loopU cs is fa)) := ps_imp (ps_for hp hc hi (pg_tup hc hg hn hst) hb hs) fun _ _ _ => den_forU hw
end
end Dn
/-! St4: own + and * (instances to the left). -/
namespace Dn
open PySem L2 ClX StX PySem.Spec PyProof.Rows
section
variable {prog : Program} {w : World} {M : Model} {A : Around} {E : Value → Shared → Prop} {s : Shared} {K : PySem.W.Frag} {x C D f : Addr} {ox : Obj} {od : Option Obj} {nm T : String} {b : Value}
def NoFill (K : PySem.W.Frag) (D : Addr) (nm : String) : Prop := ∃ cd, PySem.W.clsIn K D = some cd ∧ ∀ c ∈ cd.mro, PySem.W.findIn K c (PySem.dunder nm) = some none ∧ PySem.W.findIn K c (dunderR nm) = some none
theorem noFill_any {h : Heap} (X : K.In h) : ∀ {l : List Value}, (∀ c ∈ l, PySem.W.findIn K c (PySem.dunder nm) = some none ∧ PySem.W.findIn K c (dunderR nm) = some none) →
    PySem.W.Looks M h (l.anyM fun c => do
      if let .type _ := c then return ← (do
        let f ← typeLookup c (PySem.dunder nm)
        let r ← typeLookup c (dunderR nm)
        return (f.isSome && !isSeqSlot f) || (r.isSome && !isSeqSlot r))
      [PySem.dunder nm, dunderR nm].anyM fun name => do
        let some x ← typeLookup c name | return false
        if !ownNameWrapper x name then return true
        return !(← inheritsSeqSlot c name)) false
  | [], _ => .now
  | c :: r, hc => by
    intro A Q E s k q
    obtain ⟨h1, h2⟩ := hc c List.mem_cons_self
    have ih := noFill_any X (fun d hd => hc d (List.mem_cons_of_mem _ hd)) A Q E s k q
    have X' : K.In s.heap := X.keeps k
    have L1 : PySem.W.Looks M s.heap (typeLookup c (PySem.dunder nm)) none := PySem.W.looks_findIn X' h1
    have L2 : PySem.W.Looks M s.heap (typeLookup c (dunderR nm)) none := PySem.W.looks_findIn X' h2
    rw [List.anyM_cons]
    refine wpAny_bind ?_
    have tail : wpAny M A (if false = true then pure true else (r.anyM fun c => do
      if let .type _ := c then return ← (do
        let f ← typeLookup c (PySem.dunder nm)
        let r ← typeLookup c (dunderR nm)
        return (f.isSome && !isSeqSlot f) || (r.isSome && !isSeqSlot r))
      [PySem.dunder nm, dunderR nm].anyM fun name => do
        let some x ← typeLookup c name | return false
        if !ownNameWrapper x name then return true
        return !(← inheritsSeqSlot c name))) Q E s := by
      rw [if_neg (by decide)]
      exact ih
    have two : wpAny M A ([PySem.dunder nm, dunderR nm].anyM fun name => do
        let some x ← typeLookup c name | return false
        if !ownNameWrapper x name then return true
        return !(← inheritsSeqSlot c name)) (fun b s' => b = false ∧ s' = s) E s := by
      rw [List.anyM_cons]
      refine wpAny_bind (wpAny_bind (L1.here ?_))
      refine wpAny_pure ?_
      rw [if_neg (by decide), List.anyM_cons]
      refine wpAny_bind (wpAny_bind (L2.here ?_))
      refine wpAny_pure ?_
      rw [if_neg (by decide)]
      exact wpAny_pure ⟨rfl, rfl⟩
    cases c with
    | type n =>
      refine wpAny_bind (L1.here (wpAny_bind (L2.here ?_)))
      first | exact wpAny_pure tail | exact wpAny_bind (wpAny_pure (wpAny_pure tail)) | exact wpAny_pure (wpAny_pure tail)
    | _ =>
      refine wpAny_mono two (fun b s' hb => ?_) fun _ _ z => z
      obtain ⟨rfl, rfl⟩ := hb
      exact tail
theorem noFill_looks {h : Heap} (X : K.In h) (n : NoFill K D nm) : PySem.W.Looks M h (fillsNumberSlot (.ref D) nm) false := by
  obtain ⟨cd, hc, hm⟩ := n
  intro A Q E s k q
  unfold fillsNumberSlot
  exact wpAny_bind ((PySem.W.looks_clsIn X hc).andThen (f := fun cd => pure cd.mro) .now A _ E s k (noFill_any X hm A Q E s k q))
theorem opback {x : V} {v : Value} {Q : Value → Shared → Prop} {s' : Shared} (r : RelV x v) (h : Q v s') : PySem.W.CmpBack Q v s' := by
  cases x <;> first
    | (obtain ⟨t, rfl⟩ := r; exact h)
    | (cases r; exact h)
theorem try_bin {Q : Value → Shared → Prop} {name : Str} (X : K.In s.heap) (I : PySem.W.InstAt s.heap x ox C od) (hs : PySem.W.findIn K (.ref C) name = some (some (.ref f))) (hf : PySem.W.isFn K (.ref f) = true)
    (h : wpAny M A (call (.ref f) [.ref x, b]) (PySem.W.CmpBack Q) E s) : wpAny M A (tryMethod (.ref x) name b) (fun r s' => ∃ v, r = some v ∧ Q v s') E s := PySem.W.ksp_try X I hs hf h
theorem binop_same {op : Operator} {Q : Value → Shared → Prop} (X : K.In s.heap) (I : PySem.W.InstAt s.heap x ox C od) (hb : PySem.W.Looks (model prog w) s.heap (typeOf b) (.ref C)) (hc : PySem.W.selfFirst K C = true)
    (hs : PySem.W.findIn K (.ref C) (PySem.dunder op.info.2) = some (some (.ref f))) (hf : PySem.W.isFn K (.ref f) = true)
    (h : wpAny (model prog w) A (call (.ref f) [.ref x, b]) (PySem.W.CmpBack Q) E s) : wpAny (model prog w) A (binaryOp op (.ref x) b) Q E s := by
  obtain ⟨cd, rest, hcd, hm⟩ := PySem.W.ksp_first hc
  unfold binaryOp
  refine wpAny_holding (wpAny_bind ?_)
  unfold binaryOp1
  refine wpAny_bind (I.type.here (wpAny_bind (hb.here (wpAny_bind ((PySem.W.fills_K X hcd hm hs).here ?_)))))
  simp only [beq_self_eq_true, if_true]
  refine wpAny_bind (wpAny_pure ?_)
  simp only [Bool.and_false, Bool.false_eq_true, if_false, Bool.false_and]
  refine wpAny_bind (wpAny_pure ?_)
  simp only [Bool.false_eq_true, if_false]
  refine wpAny_bind (m := tryMethod (.ref x) _ b) (wpAny_mono (try_bin X I hs hf h) (fun r s' hr => ?_) fun _ _ e => e)
  obtain ⟨v, rfl, hq⟩ := hr
  exact wpAny_pure (wpAny_pure hq)
theorem binop_other {op : Operator} {Q : Value → Shared → Prop} (X : K.In s.heap) (I : PySem.W.InstAt s.heap x ox C od) (hb : PySem.W.Looks (model prog w) s.heap (typeOf b) (.ref D)) (hne : (Value.ref C == Value.ref D) = false) (hD : NoFill K D op.info.2) (hc : PySem.W.selfFirst K C = true)
    (hs : PySem.W.findIn K (.ref C) (PySem.dunder op.info.2) = some (some (.ref f))) (hf : PySem.W.isFn K (.ref f) = true)
    (h : wpAny (model prog w) A (call (.ref f) [.ref x, b]) (PySem.W.CmpBack Q) E s) : wpAny (model prog w) A (binaryOp op (.ref x) b) Q E s := by
  obtain ⟨cd, rest, hcd, hm⟩ := PySem.W.ksp_first hc
  unfold binaryOp
  refine wpAny_holding (wpAny_bind ?_)
  unfold binaryOp1
  refine wpAny_bind (I.type.here (wpAny_bind (hb.here (wpAny_bind ((PySem.W.fills_K X hcd hm hs).here ?_)))))
  simp only [hne, Bool.false_eq_true, if_false]
  refine wpAny_bind ((noFill_looks X hD).here ?_)
  simp only [Bool.and_false, Bool.false_eq_true, if_false, Bool.false_and]
  refine wpAny_bind (wpAny_pure ?_)
  simp only [Bool.false_eq_true, if_false]
  refine wpAny_bind (m := tryMethod (.ref x) _ b) (wpAny_mono (try_bin X I hs hf h) (fun r s' hr => ?_) fun _ _ e => e)
  obtain ⟨v, rfl, hq⟩ := hr
  exact wpAny_pure (wpAny_pure hq)
structure BltFill (K : PySem.W.Frag) (C : Addr) (nm : String) (T : String) : Prop where
  r : ∃ rc, PySem.W.findIn K (.ref C) (dunderR nm) = some rc ∧ (rc = none ∨ ∃ g : Addr, rc = some (.ref g))
  t : ∃ fo ro, PySem.W.findIn K (.type T) (PySem.dunder nm) = some fo ∧ PySem.W.findIn K (.type T) (dunderR nm) = some ro
  s : PySem.W.subIn K (.type T) (.ref C) = some false
theorem binop_T {op : Operator} {Q : Value → Shared → Prop} (X : K.In s.heap) (I : PySem.W.InstAt s.heap x ox C od) (hb : PySem.W.Looks (model prog w) s.heap (typeOf b) (.type T)) (hB : BltFill K C op.info.2 T) (hc : PySem.W.selfFirst K C = true)
    (hs : PySem.W.findIn K (.ref C) (PySem.dunder op.info.2) = some (some (.ref f))) (hf : PySem.W.isFn K (.ref f) = true)
    (h : wpAny (model prog w) A (call (.ref f) [.ref x, b]) (PySem.W.CmpBack Q) E s) : wpAny (model prog w) A (binaryOp op (.ref x) b) Q E s := by
  obtain ⟨cd, rest, hcd, hm⟩ := PySem.W.ksp_first hc
  obtain ⟨⟨rc, hr, hp⟩, ⟨fo, ro, h1, h2⟩, hsub⟩ := hB
  rcases hi : op.info with ⟨sym, nm'⟩
  rw [hi] at hs hr h1 h2
  dsimp only at hs hr h1 h2
  have one := try_bin X I hs hf h
  obtain ⟨hh, g, d, tt, os⟩ := s
  have L1 : PySem.W.Looks (model prog w) hh (typeOf (.ref x)) (.ref C) := I.type
  have L2 : PySem.W.Looks (model prog w) hh (typeOf b) (.type T) := hb
  have L3 : PySem.W.Looks (model prog w) hh (fillsNumberSlot (.ref C) nm') true := PySem.W.fills_K X hcd hm hs
  have L4 : PySem.W.Looks (model prog w) hh (fillsNumberSlot (.type T) nm') ((fo.isSome && !isSeqSlot fo) || (ro.isSome && !isSeqSlot ro)) := PySem.W.ksp_fillsT X h1 h2
  have L5 : PySem.W.Looks (model prog w) hh (isSubtype (.type T) (.ref C)) false := PySem.W.looks_subIn X hsub
  have L6 : PySem.W.Looks (model prog w) hh (numberSlotInPython (.ref C) nm') true := PySem.W.ksp_inPy X hs hr hp
  have L7 : PySem.W.Looks (model prog w) hh (numberSlotInPython (.type T) nm') false := PySem.W.Looks.of_pure rfl
  have L8 : PySem.W.Looks (model prog w) hh (typeLookup (.type T) (dunderR nm')) ro := PySem.W.looks_findIn X h2
  generalize ((fo.isSome && !isSeqSlot fo) || (ro.isSome && !isSeqSlot ro)) = right at L4
  have hne : (Value.ref C == Value.type T) = false := Bool.eq_false_iff.mpr fun q => by cases beq_iff_eq.mp q
  simp only [binaryOp, hi]
  refine wpAny_holding (wpAny_bind ?_)
  unfold binaryOp1
  refine wpAny_bind (L1.at (wpAny_bind (L2.at (wpAny_bind (L3.at ?_)))))
  simp only [hne, Bool.false_eq_true, if_false]
  cases right with
  | false =>
    ksp_lk
    refine wpAny_mono one (fun r s' hr' => ?_) fun _ _ e => e
    obtain ⟨v, rfl, hq⟩ := hr'
    ksp_lk
    exact hq
  | true =>
    ksp_lk
    refine wpAny_mono one (fun r s' hr' => ?_) fun _ _ e => e
    obtain ⟨v, rfl, hq⟩ := hr'
    ksp_lk
    exact hq
end
/-- a def runs on values; what it raises is let out -/
theorem run_ent {Y : WX} {X : Cx} {k n : Nat} {pins : List (Addr × Obj)} {s : Shared} {σ : L2.St} {H : Hp} {g : Addr} {mf : Fn} {vs : List V} {us : List Value} {Qv : VK} (I : Inv X pins σ H s) (hgd : X.A.guards = some []) (hr : Room k X.A) (tY : Takes X Y)
    (F : Ent X.prog X.w X.K X.mg X.base k g n n [] mf) (rv : Vals vs us) (hn : vs.length = n) (h : spM X.K n mf vs H Qv (WE Y σ)) :
    wpAny (model X.prog X.w) X.A (call (.ref g) us) (EP X pins σ Qv) X.xe s := by
  obtain ⟨fd, ps, hnp, G, hb⟩ := F.ex
  have bd := hb.to s us [] I.kIn (rv.length.symm.trans hn) rfl
  have rr := hb.rel (vs := vs) (us := us) (zs := []) (ws := []) rv .nil
  rw [List.append_nil] at rr
  have go := G.run X.A X.stack s H _ _ _ Qv (WE Y σ) hgd hr I.env0 bd rr h
  refine wpAny_call (codeAny_mono go fun res s' hq => ?_)
  match res, hq with
  | .error er, hq => exact passAt tY σ pins _ _ er s' I hq
  | .ok (.ret u), hq => exact I.after hq
  | .ok .next, hq => exact False.elim hq
  | .ok .brk, hq => exact False.elim hq
  | .ok .cont, hq => exact False.elim hq
/-! ### operators that may raise -/
abbrev R2S := L2.St → R2
def tOpS (r : R2S) (ta tb : TE) : TE := fun σ H Q => ta σ H fun x H1 => tb σ H1 fun y H2 => r σ x y H2 Q
def OpRS (X : Cx) (f : Value → Value → Sem Value) (r : R2S) : Prop :=
  ∀ (pins : List (Addr × Obj)) (s : Shared) (σ : L2.St) (H : Hp) (x y : V) (v u : Value) (Q : VK), Inv X pins σ H s → RelV x v → RelV y u → r σ x y H Q → wpAny (model X.prog X.w) X.A (f v u) (EP X pins σ Q) X.xe s
theorem pe_opS {X : Cx} {a b : Expr} {ta tb : TE} {pos : Pos} {op : Operator} {r : R2S} (ho : OpRS X (binaryOp op) r) (ha : PE X a ta) (hb : PE X b tb) : PE X (.BinOp a op b pos) (tOpS r ta tb) := by
  refine ⟨fun pins s σ H Q I h => ?_⟩
  exact wpAny_BinOp (binT (R := fun x y H2 => r σ x y H2 Q) ha hb I h fun v u s2 x y H2 I2 rx ry q => ho pins s2 σ H2 x y v u Q I2 rx ry q)
section
variable {Y : WX} {K : PySem.W.Frag} {σ : L2.St} {H : Hp} {Q : VK} {ca cb : M PV}
def BinS (Y : WX) (r : R2S) (K : PySem.W.Frag) (op : PV → PV → M PV) : Prop := ∀ (C : Ctx) (W : Vw) (s : S) (σ : L2.St) (H : Hp) (v w : V) (a b : PV) (Q : VK), At K (C.wi Y) W s σ H → Rep K W v a → Rep K W w b → Pst K (C.wi Y) W σ (op a b s) (WantV K Q) → r σ v w H Q
theorem den_binS {r : R2S} {op : PV → PV → M PV} (hb : BinS Y r K op) (h : den K Y (bin ca cb op) σ H Q) : tOpS r (den K Y ca) (den K Y cb) σ H Q := by
  obtain ⟨C, W, s, at', p⟩ := h
  refine ⟨C, W, s, at', (Pst.bnd p).imp fun a s1 W1 H1 l1 at1 p1 v rv => ⟨C, W1, s1, at1, (Pst.bnd p1).imp fun b s2 W2 H2 l2 at2 p2 w rw' => ?_⟩⟩
  exact hb _ W2 s2 σ H2 v w a b Q at2 (rv.mono l2) rw' p2
structure BopC (K : PySem.W.Frag) (C g : Addr) (nm : String) : Prop where
  sf : PySem.W.selfFirst K C = true
  he : PySem.W.findIn K (.ref C) (PySem.dunder nm) = some (some (.ref g))
  fn : PySem.W.isFn K (.ref g) = true
structure BopTab (P : Program) (w : World) (K : PySem.W.Frag) (mg : Str → Option Value) (base : Heap) (k : Nat) (nm : String) (tab : List (Str × Fn)) (oth : List Str) (bl : List String) : Prop where
  own : ∀ c mf, tab.lookup c = some mf → ∃ C g, ClsAt K c C ∧ C8.InsC K C ∧ BopC K C g nm ∧ Ent P w K mg base k g 2 2 [] mf
  oth : ∀ c mf, tab.lookup c = some mf → ∀ c2 ∈ oth, ∃ C D, ClsAt K c C ∧ ClsAt K c2 D ∧ C8.InsC K D ∧ (Value.ref C == Value.ref D) = false ∧ NoFill K D nm
  blt : ∀ c mf, tab.lookup c = some mf → ∃ C, ClsAt K c C ∧ ∀ t ∈ bl, BltFill K C nm t
def bopO (tab : List (Str × Fn)) (oth : List Str) (bl : List String) (n : Nat) (old : PV → PV → M PV) (a b : PV) : M PV := fun s => match insOf s a with
  | none => old a b s
  | some (c, _, _) => match tab.lookup c with
    | none => .stk
    | some f => match insOf s b with
      | some (c2, _, _) => if c2 = c ∨ c2 ∈ oth then runM f n [a, b] s else .stk
      | none => (match tyS s b with
        | some T => if T ∈ bl then runM f n [a, b] s else .stk
        | none => .stk)
def rBopO (P : Program) (w : World) (K : PySem.W.Frag) (mg : Str → Option Value) (base : Heap) (k : Nat) (nm : String) (Y : WX) : R2S := fun σ x y H Q => ∃ (a C dx : Addr) (fs : List (Str × V)) (t : Value) (g : Addr) (mf : Fn), x = .ref a ∧ H a = some (.ins C dx fs) ∧ TyX K H y t ∧ BopC K C g nm ∧ Ent P w K mg base k g 2 2 [] mf ∧
  (t = .ref C ∨ (∃ D, t = .ref D ∧ (Value.ref C == Value.ref D) = false ∧ NoFill K D nm) ∨ ∃ T, t = .type T ∧ BltFill K C nm T) ∧ spM K 2 mf [x, y] H Q (WE Y σ)
def rOrS (r : R2) (q : R2S) : R2S := fun σ x y H Q => r x y H Q ∨ q σ x y H Q
theorem op_orS {X : Cx} {f : Value → Value → Sem Value} {r : R2} {q : R2S} (h : OpR X f r) (k : OpRS X f q) : OpRS X f (rOrS r q) := by
  intro pins s σ H x y v u Q I rx ry h'
  rcases h' with h' | h'
  · exact h pins s σ H x y v u Q I rx ry h'
  · exact k pins s σ H x y v u Q I rx ry h'
theorem op_bopO {X : Cx} {k : Nat} {op : Operator} (hgd : X.A.guards = some []) (hr : Room k X.A) (tY : Takes X Y) : OpRS X (binaryOp op) (rBopO X.prog X.w X.K X.mg X.base k op.info.2 Y) := by
  intro pins s σ H x y v u Q I rx ry hq
  obtain ⟨a, C, dx, fs, t, g, mf, rfl, ha, ty, c, F, ht, hsp⟩ := hq
  obtain rfl : v = Value.ref a := rx
  obtain ⟨ox, od, J, _⟩ := StX.insC_at (C := C) I (.inr ⟨dx, fs, ha⟩)
  obtain ⟨P, Z, pz, _⟩ := kit_of I ry ty
  have hb := Z.ty (model X.prog X.w) _ I.kIn pz
  have go : wpAny (model X.prog X.w) X.A (call (.ref g) [.ref a, u]) (PySem.W.CmpBack (EP X pins σ Q)) X.xe s := thn (run_ent I hgd hr tY F (.cons (show L2.RelV (.ref a) (.ref a) from rfl) (.cons ry .nil)) rfl hsp) fun z s' hz => by
    obtain ⟨zv, H', I', rz, q⟩ := hz
    exact opback rz ⟨zv, H', I', rz, q⟩
  rcases ht with rfl | ⟨D, rfl, hne, hD⟩ | ⟨T, rfl, hT⟩
  · exact binop_same I.kIn J hb c.sf c.he c.fn go
  · exact binop_other I.kIn J hb hne hD c.sf c.he c.fn go
  · exact binop_T I.kIn J hb hT c.sf c.he c.fn go
theorem bin_bopO {P : Program} {w : World} {mg : Str → Option Value} {base : Heap} {k n : Nat} {nm : String} {tab : List (Str × Fn)} {oth : List Str} {bl : List String} {r : R2} {old : PV → PV → M PV} (T : BopTab P w K mg base k nm tab oth bl) (hold : Bin r K old) : BinS Y (rOrS r (rBopO P w K mg base k nm Y)) K (bopO tab oth bl n old) := by
  intro C W s σ H v u a b Q at' ra rb p
  unfold bopO at p
  cases e : insOf s a with
  | none =>
    simp only [e] at p
    exact .inl (hold _ W s σ H v u a b Q at' (.rep ra) (.rep rb) p)
  | some t =>
    obtain ⟨c, ks, vs⟩ := t
    simp only [e] at p
    cases e1 : tab.lookup c with
    | none => simp only [e1] at p; exact p.elim
    | some mf =>
      simp only [e1] at p
      obtain ⟨ad, Cc, dx, us, rfl, h1, h2, _, _⟩ := insOf_rep at' ra e
      obtain ⟨C2, g, k1, k2, k3, F⟩ := T.own c mf e1
      cases cls_uniq h1 k1
      have go : ∀ {r : Res S PV}, r = runM mf n [a, b] s → Pst K (C.wi Y) W σ r (WantV K Q) → spM K 2 mf [.ref ad, u] H Q (WE Y σ) := fun {r} e p => sp_run F.len at' (.cons ra (.cons rb .nil)) (e ▸ p)
      cases e2 : insOf s b with
      | some t2 =>
        obtain ⟨c2, ks2, vs2⟩ := t2
        simp only [e2] at p
        obtain ⟨ad2, Cc2, dx2, us2, rfl, h3, h4, _, _⟩ := insOf_rep at' rb e2
        by_cases hc : c2 = c ∨ c2 ∈ oth
        · rw [if_pos hc] at p
          rcases hc with rfl | hc
          · cases cls_uniq h3 k1
            exact .inr ⟨ad, _, dx, _, .ref _, g, mf, rfl, h2, ins_ty (c := c2) k2 h4, k3, F, .inl rfl, go rfl p⟩
          · obtain ⟨C3, D, k4, k5, k6, k7, k8⟩ := T.oth c mf e1 c2 hc
            cases cls_uniq k1 k4
            cases cls_uniq h3 k5
            exact .inr ⟨ad, _, dx, _, .ref _, g, mf, rfl, h2, ins_ty (c := c2) k6 h4, k3, F, .inr (.inl ⟨_, rfl, k7, k8⟩), go rfl p⟩
        · rw [if_neg hc] at p
          exact p.elim
      | none =>
        simp only [e2] at p
        cases e3 : tyS s b with
        | none => simp only [e3] at p; exact p.elim
        | some ty =>
          simp only [e3] at p
          by_cases hT : ty ∈ bl
          · rw [if_pos hT] at p
            obtain ⟨C3, k4, k5⟩ := T.blt c mf e1
            cases cls_uniq k1 k4
            exact .inr ⟨ad, _, dx, _, .type ty, g, mf, rfl, h2, tyS_rep at' rb e3, k3, F, .inr (.inr ⟨_, rfl, k5 ty hT⟩), go rfl p⟩
          · rw [if_neg hT] at p
            exact p.elim
end
section
variable {Y : WX} {X : Cx} {a b : Expr} {ca cb : M PV} {pos : Pos} {j k : Nat} {tab : List (Str × Fn)} {oth : List Str} {bl : List String}
theorem xaddO (n : Nat) (T : BopTab X.prog X.w X.K X.mg X.base j "add" tab oth bl) (hgd : X.A.guards = some []) (hr : Room k X.A) (tY : Takes X Y) (hjk : j ≤ k) (ha : PE X a (den X.K Y ca)) (hb : PE X b (den X.K Y cb)) : PE X (.BinOp a .Add b pos) (den X.K Y (bin ca cb (bopO tab oth bl n opAdd))) :=
  pe_imp (pe_opS (op_orS op_addU (op_bopO hgd (hr.mono hjk) tY)) ha hb) fun _ _ _ => den_binS (bin_bopO T bin_add)
end
end Dn
/-! St5: defs and classes with a star parameter, in rows; own operators in rows. -/
namespace Dn
open PySem L2 ClX StX NdefX PySem.Spec PyProof.Rows
def StarB (fd : FuncData) (ps : List Str) (pv : Str) : Prop := ∀ us rest : List Value, us.length = ps.length → bindArgs fd ⟨us ++ rest, []⟩ = (newTuple rest >>= fun t => pure (ps.zip us ++ [(pv, t)]))
abbrev PrV (P : Program) (w : World) (K : PySem.W.Frag) (mg : Str → Option Value) (base : Heap) (k : Nat) (x qual : Str) (st : Stmt) (ps : List Str) (pv : Str) (m : Fn) : Prop := ∀ f fd, Fun K x qual st f fd → StarB fd ps pv → FnGS P w K mg base (L2.CX P w) k f ps.length (spM K (ps ++ [pv]).length m)
theorem prV_mk {P : Program} {w : World} {K : PySem.W.Frag} {mg : Str → Option Value} {base : Heap} {k : Nat} {x qual pv : Str} {st : Stmt} {N ps : List Str} {body : Nat → M Fl} (S : FnScope N (ps ++ [pv]) (defScope st)) (hN : (ps ++ [pv]).length ≤ N.length)
    (hbody : ∀ (f : Addr) (cdv : Value) (A : Around) (outer : List PySem.Env) (s : Shared) (H : Hp) (E : XK) (n : Nat), (A.deeper (envOfC qual (defScope st) s.heap.objs.size f cdv)).guards = some [] → Room k (A.deeper (envOfC qual (defScope st) s.heap.objs.size f cdv)) →
      Takes (bodyQ P w K mg base N qual st f cdv A outer s H E) (yE E) → PassesOwn (model P w) (bodyQ P w K mg base N qual st f cdv A outer s H E).A (bodyQ P w K mg base N qual st f cdv A outer s H E).env (bodyQ P w K mg base N qual st f cdv A outer s H E).xe →
      PSs (bodyQ P w K mg base N qual st f cdv A outer s H E) (defBody st) (denS K (yE E) (body n))) :
    PrV P w K mg base (k + 1) x qual st ps pv (fnM (ps ++ [pv]).length N.length body) := by
  intro f fd F hb
  obtain ⟨oc, od, dV, kV, doc, pm, an, cdv, ct, osl, rfl, lk, hcd⟩ := F.ex
  refine fn_starG lk hcd S cxUp hb fun A outer s H vs Q E hgd hr hsp => ?_
  obtain ⟨n, h⟩ := start_den hN hsp
  exact ⟨_, hbody f cdv A outer s H E n hgd hr (takes_of rfl rfl rfl rfl) (passes_of rfl), h⟩
structure MkV (P : Program) (w : World) (K : PySem.W.Frag) (mg : Str → Option Value) (base : Heap) (k : Nat) (c : Str) (np i : Nat) (m : Fn) : Prop where
  ex : ∃ C f, ClsAt K c C ∧ mg c = some (.ref C) ∧ Mk K C f ∧ FnGS P w K mg base (L2.CX P w) k f (i + 1) (spM K np m)
  len : ∀ n ds st, m n ds st ≠ .stk → ds.length = np
def MkVP (K : PySem.W.Frag) (mg : Str → Option Value) (c qual : Str) (st : Stmt) (ps : List Str) (pv : Str) : Prop := ∃ C f fd, ClsAt K c C ∧ mg c = some (.ref C) ∧ Mk K C f ∧ Fun K "__init__" qual st f fd ∧ StarB fd ps pv
section
variable {P : Program} {w : World} {K : PySem.W.Frag} {mg : Str → Option Value} {base : Heap} {k j nn : Nat} {c qual m pv : Str} {st : Stmt} {ps : List Str} {body : Nat → M Fl} {np i : Nat} {tab : List (Str × Fn)} {bq : Bool}
theorem prvF {x : Str} (G : PrV P w K mg base k x qual st ps pv (fnM np nn body)) : PrV P w K mg base k x qual st ps pv (fnQ false np nn body) := G
theorem mkV_row (G : PrV P w K mg base k "__init__" qual st ps pv (fnQ bq np nn body)) (Z : MkVP K mg c qual st ps pv) (e : ps.length = i + 1) (e2 : (ps ++ [pv]).length = np) : MkV P w K mg base k c np i (fnQ bq np nn body) := by
  obtain ⟨C, f, fd, h1, h2, h3, F, hb⟩ := Z
  refine ⟨⟨C, f, h1, h2, h3, ?_⟩, fun n ds st h => fnQ_len h⟩
  have g := G f fd F hb
  rw [e, e2] at g
  exact g
/-! ### own operators -/
def BopP (K : PySem.W.Frag) (c : Str) (nm : String) (x qual : Str) (st : Stmt) (ps : List Str) : Prop := ∃ C g fd, ClsAt K c C ∧ C8.InsC K C ∧ BopC K C g nm ∧ Fun K x qual st g fd ∧ KB K fd ps 2 []
def OthP (K : PySem.W.Frag) (c c2 : Str) (nm : String) : Prop := ∃ C D, ClsAt K c C ∧ ClsAt K c2 D ∧ C8.InsC K D ∧ (Value.ref C == Value.ref D) = false ∧ NoFill K D nm
def BopB (K : PySem.W.Frag) (c : Str) (nm : String) (bl : List String) : Prop := ∃ C, ClsAt K c C ∧ ∀ t ∈ bl, BltFill K C nm t
structure BopO (P : Program) (w : World) (K : PySem.W.Frag) (mg : Str → Option Value) (base : Heap) (k : Nat) (nm : String) (tab : List (Str × Fn)) : Prop where
  ok : ∀ c mf, tab.lookup c = some mf → ∃ C g, ClsAt K c C ∧ C8.InsC K C ∧ BopC K C g nm ∧ Ent P w K mg base k g 2 2 [] mf
theorem bo0 {nm : String} : BopO P w K mg base k nm [] := ⟨fun c mf h => nomatch h⟩
theorem boC {nm : String} {x : Str} {r : List (Str × Fn)} (G : Pr P w K mg base j x qual st ps (fnQ bq np nn body)) (Z : BopP K c nm x qual st ps) (hjk : j ≤ k) (e : ps.length = np) (e2 : np = 2) (T : BopO P w K mg base k nm r) : BopO P w K mg base k nm ((c, fnQ bq np nn body) :: r) := ⟨fun d mf h => by
  rcases look_cons h with ⟨rfl, rfl⟩ | h
  · obtain ⟨C, g, fd, h1, h2, h3, F, hb⟩ := Z
    subst e2
    exact ⟨C, g, h1, h2, h3, FnG.up (ent_row G F hb e) hjk⟩
  · exact T.ok d mf h⟩
structure OthOk (K : PySem.W.Frag) (c : Str) (nm : String) (oth : List Str) : Prop where
  ok : ∀ c2 ∈ oth, OthP K c c2 nm
theorem oth0 {nm : String} : OthOk K c nm [] := ⟨fun c mf => nomatch mf⟩
theorem othC {nm : String} {c2 : Str} {r : List Str} (h : OthP K c c2 nm) (T : OthOk K c nm r) : OthOk K c nm (c2 :: r) := ⟨fun d hd => by
  rcases List.mem_cons.mp hd with rfl | hd
  · exact h
  · exact T.ok d hd⟩
theorem bopT {nm : String} {c : Str} {mf : Fn} {oth : List Str} {bl : List String} (T : BopO P w K mg base k nm [(c, mf)]) (O : OthOk K c nm oth) (B : BopB K c nm bl) : BopTab P w K mg base k nm [(c, mf)] oth bl := by
  refine ⟨T.ok, fun d mf' h c2 hc => ?_, fun d mf' h => ?_⟩
  · rcases look_cons h with ⟨rfl, rfl⟩ | h
    · exact O.ok c2 hc
    · exact nomatch h
  · rcases look_cons h with ⟨rfl, rfl⟩ | h
    · exact B
    · exact nomatch h
theorem noFill2 {D : Addr} {nm : String} {cd : ClassData} {l : List Value} (h : PySem.W.clsIn K D = some cd) (e : cd.mro = l) (hl : ∀ c ∈ l, PySem.W.findIn K c (PySem.dunder nm) = some none ∧ PySem.W.findIn K c (dunderR nm) = some none) : NoFill K D nm := ⟨cd, h, e ▸ hl⟩
theorem nf0 {nm : String} : ∀ c ∈ ([] : List Value), PySem.W.findIn K c (PySem.dunder nm) = some none ∧ PySem.W.findIn K c (dunderR nm) = some none := fun _ h => nomatch h
theorem nfC {nm : String} {v : Value} {r : List Value} (h1 : PySem.W.findIn K v (PySem.dunder nm) = some none) (h2 : PySem.W.findIn K v (dunderR nm) = some none) (h : ∀ c ∈ r, PySem.W.findIn K c (PySem.dunder nm) = some none ∧ PySem.W.findIn K c (dunderR nm) = some none) : ∀ c ∈ v :: r, PySem.W.findIn K c (PySem.dunder nm) = some none ∧ PySem.W.findIn K c (dunderR nm) = some none := fun c hc => by
  rcases List.mem_cons.mp hc with rfl | hc
  · exact ⟨h1, h2⟩
  · exact h c hc
theorem bf0 {C : Addr} {nm : String} : ∀ t ∈ ([] : List String), BltFill K C nm t := fun _ h => nomatch h
end
section
variable {Y : WX} {X : Cx} {k j : Nat} {c : Str} {p pos : Pos} {e : Expr} {es : List Expr} {np i : Nat} {mf : Fn} {ca : M (List PV)}
theorem xmakeV (n : Nat) (D : MkV X.prog X.w X.K X.mg X.base j c np i mf) (hgd : X.A.guards = some []) (hr : Room k X.A) (tY : Takes X Y) (hjk : j + 1 ≤ k) (ha : PA X (e :: es) (denA X.K Y ca)) (hg : Gl X c := by rfl)
    (hdb : (c == ("__debug__" : Str)) = false := by decide) (he : starEach (e :: es) X.env = (false, eval e X.env) :: starEach es X.env := by rfl) : PE X (.Call (.Name c p) (e :: es) [] pos) (den X.K Y (makeM c mf n (starA i ca))) := by
  obtain ⟨C, f, hc, hm, M, F⟩ := D.ex
  exact pe_imp (pe_makeSG M F hgd (hr.mono hjk) tY hg hm ha hdb he) fun _ _ _ => den_makeS hc D.len
end
end Dn
namespace Dn
open PySem L2 ClX StX NdefX PySem.Spec PyProof.Rows
theorem starB2 {fd : FuncData} {p1 p2 pv : Str} (h0 : ∀ a b, bindArgs fd ⟨[a, b], []⟩ = (newTuple [] >>= fun t => pure [(p1, a), (p2, b), (pv, t)])) (h1 : ∀ a b r rs, bindArgs fd ⟨a :: b :: r :: rs, []⟩ = (newTuple (r :: rs) >>= fun t => pure [(p1, a), (p2, b), (pv, t)])) : StarB fd [p1, p2] pv
  | [a, b], [], _ => h0 a b
  | [a, b], r :: rs, _ => h1 a b r rs
end Dn
/-! St6: a list of anything compared with []. -/
namespace Dn
open PySem L2 ClX StX NdefX PySem.Spec PyProof.Rows
def rEqNil (K : PySem.W.Frag) : R2 := fun x y H Q => ∃ a b xs, x = .ref a ∧ y = .ref b ∧ SqL K H a xs ∧ SqL K H b [] ∧ Q (.bl xs.isEmpty) H
theorem op_eqNil {X : Cx} (hu : X.A.units < cLine) : OpR X (compareOp .Eq) (rEqNil X.K) := by
  intro pins s σ H x y v u Q I rx ry h
  obtain ⟨a, b, xs, rfl, rfl, h1, h2, q⟩ := h
  obtain rfl : v = Value.ref a := rx
  obtain rfl : u = Value.ref b := ry
  obtain ⟨its, rv, p, _⟩ := I.list h1
  obtain ⟨its2, rv2, p2, _⟩ := I.list h2
  have hl := rv.length
  have hl2 := rv2.length
  cases xs with
  | nil =>
    refine SeqAt.eq_listAt (e := fun _ => true) p.isList p2.isList (by simp; omega) hu (fun j h1 _ => ?_) ⟨.bl true, H, I, (show L2.RelV (.bl true) _ from by simp [L2.RelV]), q⟩
    exact absurd h1 (by simp at hl ⊢; omega)
  | cons x r =>
    exact SeqAt.eq_list_lengthsAt p.isList p2.isList (by simp at hl hl2 ⊢; omega) hu ⟨.bl false, H, I, rfl, q⟩
def eqLP (a b : PV) : Option PV := match a, b with
  | .lst xs, .lst [] => some (.bl xs.isEmpty)
  | _, _ => none
abbrev opEqL (a b : PV) : M PV := lft (eqLP a b)
theorem bin_eqL {K : PySem.W.Frag} : Bin (rEqNil K) K opEqL := by
  intro C W s σ H v w a b Q at' ra rb p
  obtain ⟨d, e, q⟩ := p.lft'
  have q0 := q W H (Vw.Le.refl W) at'
  unfold eqLP at e
  split at e
  · rename_i xs
    cases e
    obtain ⟨x, vs, rfl, hx, rx⟩ := ra.lst at'.ok.sub
    obtain ⟨y, ws, rfl, hy, ry⟩ := rb.lst at'.ok.sub
    cases ry
    refine ⟨x, y, vs, rfl, rfl, SqL.of hx, SqL.of hy, ?_⟩
    have e : vs.isEmpty = xs.isEmpty := by cases rx <;> rfl
    rw [e]
    exact q0 _ (.bl _)
  · cases e
theorem k_eqL {X : Cx} (hu : X.A.units + 128 < cLine) : CmpOk X .Eq opEqL := ⟨_, op_eqNil (by omega), bin_eqL⟩
end Dn
/-! St7: tuples turned round, range of two, x += e, min and max of a list. -/
namespace Dn
open PySem L2 ClX StX NdefX PySem.Spec PyProof.Rows
end Dn
/-! St8: x += e, x *= e of ints; min, max of a list of ints. -/
namespace Dn
open PySem L2 ClX StX NdefX PySem.Spec PyProof.Rows
end Dn
/-! St9: a, b = a list. -/
namespace Dn
open PySem L2 ClX StX NdefX PySem.Spec PyProof.Rows
end Dn
/-! St10: * of cells of any size; the law's end with the script's bits. -/
namespace Dn
open PySem L2 ClX StX NdefX PySem.Spec PyProof.Rows
theorem log_of_bits {z : Int} (h : Builtin.Int.intBits z ≤ 1048576) : z.natAbs.log2 ≤ 1048576 := by
  unfold Builtin.Int.intBits at h
  split at h
  · rename_i hz
    have : z = 0 := by simpa using hz
    subst this
    decide
  · omega
/-- * of factors of together less than a hundred million bits -/
def CMulV (i j : Int) : Prop := i.natAbs.log2 + j.natAbs.log2 < 100000000
instance (i j : Int) : Decidable (CMulV i j) := inferInstanceAs (Decidable (_ < _))
theorem CMulV.ok {i j : Int} (h : CMulV i j) : IntMulOk i j := by
  have b : ∀ x : Int, Builtin.Int.intBits x ≤ x.natAbs.log2 + 1 := fun x => by
    unfold Builtin.Int.intBits
    split <;> omega
  have h1 := b i
  have h2 := b j
  have h3 : i.natAbs.log2 + j.natAbs.log2 < 100000000 := h
  have e : bitsLine = 134217728 := by decide
  unfold IntMulOk
  intro z
  rw [Bool.and_eq_true] at z
  have z2 := z.2
  unfold Builtin.Int.intTooBig at z2
  have z3 := of_decide_eq_true z2
  rw [e] at z3
  omega
end Dn
/-! St11: len() of own instances with an own `__len__`. -/
namespace Dn
open PySem L2 ClX StX PySem.Spec PyProof.Rows
/-! ### calls of built-ins that may raise -/
structure LenC (K : PySem.W.Frag) (C g : Addr) : Prop where
  he : PySem.W.findIn K (.ref C) "__len__" = some (some (.ref g))
  fn : PySem.W.isFn K (.ref g) = true
structure LenTab (P : Program) (w : World) (K : PySem.W.Frag) (mg : Str → Option Value) (base : Heap) (k : Nat) (tab : List (Str × Fn)) : Prop where
  ok : ∀ c mf, tab.lookup c = some mf → ∃ C g, ClsAt K c C ∧ LenC K C g ∧ Ent P w K mg base k g 1 1 [] mf
/-! ### in rows -/
section
variable {P : Program} {w : World} {K : PySem.W.Frag} {mg : Str → Option Value} {base : Heap} {k j nn : Nat} {c x qual : Str} {st : Stmt} {ps : List Str} {body : Nat → M Fl} {np : Nat} {tab : List (Str × Fn)} {bq : Bool}
theorem len0 : LenTab P w K mg base k [] := ⟨fun c mf h => nomatch h⟩
end
end Dn
/-! Tr2: classes made, their own handles dropped. -/
namespace Dn
open PySem L2 ClX StX PySem.Spec PyProof.Rows
end Dn
/-! Hs1: the end of a law over the small head. -/
namespace Dn
open PySem L2 ClX StX NdefX PySem.Spec PyProof.Rows
theorem law_denE {l : PySem.W.OpenLaw} {k : Nat} {q : Program} {loose : List Str} {XP : (Str → Option Value) → Heap → Prop} {YP : World → Heap → Prop} {d : DefRec} {x : Str} {m : Fn}
    (hn : l.most = some 63) (hdf : d.params.defaults = []) (hr : Room k callerA)
    (F : ∀ (w : World) (mg : Str → Option Value) (fa : Addr) (h : Heap), YP w h → h.Ns mainGlobals mg → mg d.name = some (.ref fa) →
      ∃ K : PySem.W.Frag, K.In h ∧ ∃ fd : FuncData, (∀ (s : Shared) (u : Value), BindsTo s fd ⟨[u], []⟩ [(x, u)]) ∧
        ∀ base : Heap, K.In base → base.Ns mainGlobals mg → FnG l.prog w K mg base (L2.CX l.prog w) k fa fd [x] (spM K 1 m))
    (hm : ∀ ns : List Int, ns.length ≤ 63 → (∀ z ∈ ns, z.natAbs.log2 ≤ 1048576) → ∃ n st, m n [.scr ns] [] = .ok (.bl true) st) :
    PySem.W.WalkO q loose XP YP l.row.toRowW d [] (fun f vs => PySem.call f vs) := by
  refine Att.attach_callB hn hdf fun w s₀ s₁ mg mb fa o pm cd doc a vs ns G Y ho hd hcd hmg hobj hints hlen hbits hg => ?_
  obtain ⟨K, KX, fd, hbind, hF⟩ := F w mg fa _ Y G.T.g hmg
  have rv : Vals (ns.map V.int) vs := vals_ints hints
  have hsz : vs.length = ns.length := hints.length
  have hline : ns.length ≤ sizeLine := Nat.le_trans hlen (by decide)
  -- the abstract heap: the script alone
  obtain ⟨H, hH⟩ : ∃ H, H = scrH K a { cls := .type "list", data := .seq vs.toArray } ns := ⟨_, rfl⟩
  have only : ∀ {b u}, H b = some u → b = a ∧ K.lookup a = none ∧ u = .frz { cls := .type "list", data := .seq vs.toArray } (.lst (ns.map V.int)) := fun {b u} e => by
    rw [hH] at e
    unfold scrH at e
    split at e
    · rename_i hc
      cases e
      exact ⟨hc.1, hc.2, rfl⟩
    · cases e
  have look : ∀ {b o es ep}, s₁.heap.get? b = some o → o.data = .dict es ep → H b = none := fun {b o es ep} e ed => by
    cases z : H b with
    | none => rfl
    | some u =>
      obtain ⟨rfl, _, _⟩ := only z
      rw [hobj] at e
      cases e
      cases ed
  have hok : HOk l.prog w H s₁.heap := fun b u e => by
    obtain ⟨rfl, _, rfl⟩ := only e
    exact ⟨hobj, by rw [List.length_map]; exact hline, vs, _, rv, hobj⟩
  have hS : SqL K H a (ns.map V.int) := by
    cases hk : K.lookup a with
    | none =>
      refine .inl (.inr ⟨{ cls := .type "list", data := .seq vs.toArray }, ?_⟩)
      rw [hH]
      exact if_pos ⟨rfl, hk⟩
    | some ob =>
      have e := KX a ob hk
      rw [hobj] at e
      cases e
      exact .inr ⟨_, vs.toArray, _, hk, rfl, rfl, rfl, by rw [List.size_toArray, hsz]; exact hline, rv⟩
  have ns_in : ∀ {b m}, s₁.heap.Ns b m → (hidT s₁.heap H).Ns b m := fun {b m} ⟨o, es, ep, e, ed, r⟩ => ⟨o, es, ep, hidT_get e (look e ed), ed, r⟩
  have kin : K.In (hidT s₁.heap H) := fun b ob e => hidT_get (KX b ob e) (by
    cases z : H b with
    | none => rfl
    | some u =>
      obtain ⟨rfl, hz, _⟩ := only z
      rw [hz] at e
      cases e)
  obtain ⟨mc, n1, n2⟩ := G.T.nolimit
  have e0 : Env0 l.prog w K mg (hidT s₁.heap H) callerA [] s₁ H :=
    ⟨rfl, ⟨kin, ns_in G.T.g, ⟨mb, ns_in G.T.b, G.T.builtins⟩, ⟨mc, ns_in n1, n2⟩⟩, fun b ob e => of_hidT e, Nat.le_of_eq (hidT_size _ _), trivial, fun b hb => (nomatch hb), hok, .of_eq hg⟩
  obtain ⟨n, st, run⟩ := hm ns hlen fun z hz => log_of_bits (hbits z hz)
  have sp : spM K 1 m [.ref a] H (fun v _ => v = .bl true) (fun _ _ _ => False) := by
    refine ⟨rfl, n, ⟨H, []⟩, [], [.scr ns], ⟨Same.refl H, fun i b e => ?_, List.nodup_nil, rfl⟩, .cons (.scr hS) .nil, ?_⟩
    · exact absurd e (by simp)
    · rw [run]
      intro v W' H' _ _ _ r
      cases r
      rfl
  refine codeAny_mono ((hF _ kin (ns_in G.T.g)).run callerA [] s₁ H ⟨[.ref a], []⟩ [.ref a] [.ref a] _ _ rfl hr e0 (hbind s₁ (.ref a)) (.cons rfl .nil) sp) fun r s' hq => ?_
  cases r with
  | error e =>
    obtain ⟨_, _, _, _, _, _, _, _, _, _, _, _, w⟩ := hq
    exact w.elim
  | ok fl =>
    cases fl with
    | next => exact False.elim hq
    | brk => exact False.elim hq
    | cont => exact False.elim hq
    | ret u =>
      obtain ⟨v, H', os, bare, un, hok', ru, hv⟩ := hq
      subst hv
      obtain rfl : u = Value.bool true := ru
      refine ⟨rfl, OldK.of_keep fun b ob e => ?_, os, bare⟩
      cases z : H b with
      | none => exact un.keep b ob e z (fun q => nomatch q) (fun q => nomatch q)
      | some t =>
        obtain ⟨rfl, _, rfl⟩ := only z
        obtain ⟨k1, _⟩ := hok' b _ (un.frzs b _ _ z)
        rw [hobj] at e
        cases e
        exact k1
end Dn
/-! Dt1: dicts read: d[k], k in d, d.get; own `__getitem__` and `__contains__`; a[b] and x in y of whatever stands there. -/
namespace Dn
open PySem L2 ClX StX PySem.Spec PyProof.Rows PySem.Calls
/-- a dict's pairs -/
def dicP (st : List MO) : PV → Option (List (Key × PV))
  | .hnd n => match st[n]? with
    | some (.dic kvs) => some kvs
    | _ => none
  | .dct ks vs => some (ks.zip vs)
  | _ => none
def keyP : PV → Option Key
  | .str x => some (.inr x)
  | .int i => some (.inl i)
  | _ => none
section
variable {Y : WX} {K : PySem.W.Frag} {C : Ctx} {W W' : Vw} {σ : L2.St} {H : Hp} {s : S} {v w : V} {a b d : PV} {Q : VK} {k : Key} {ca cb cc : M PV}
theorem kvs_zip : ∀ {ks : List Key} {us : List V} {vs : List PV}, ks.length = vs.length → Reps K W us vs → KVs K W (ks.zip us) (ks.zip vs)
  | [], _, [], _, .nil => .nil
  | k :: ks, _, _ :: _, hl, .cons h r => .cons h (kvs_zip (Nat.succ.inj hl) r)
  | [], _, _ :: _, hl, _ => by cases hl
  | _ :: _, _, [], hl, _ => by cases hl
theorem dic_rep {kvs : List (Key × PV)} (at' : At K C W s σ H) (r : Rep K W v d) (e : dicP s.sto d = some kvs) : ∃ x q, v = .ref x ∧ Rd H x (.dK q) ∧ KVs K W q kvs := by
  cases r <;> try (have e : (none : Option (List (Key × PV))) = some kvs := e; cases e)
  · rename_i x n hn
    unfold dicP at e
    dsimp only at e
    split at e
    · rename_i q hs
      cases e
      cases (at'.ok.live hn hs (fun z => nomatch z)).2 with
      | dic hH kv => exact ⟨x, _, rfl, .inl hH, kv⟩
    · cases e
  · rename_i x o ks us vs h hl hr
    cases e
    exact ⟨x, _, rfl, .inr ⟨o, at'.ok.sub _ _ h⟩, kvs_zip hl hr⟩
inductive RepO (K : PySem.W.Frag) (W : Vw) : Option V → Option PV → Prop
  | no : RepO K W none none
  | so {v : V} {d : PV} : Rep K W v d → RepO K W (some v) (some d)
end
/-! ### a[b] -/
/-! ### x in y -/
end Dn
/-! Dt2: dict comprehensions; d[k] = v; d.get; new dicts. -/
namespace Dn
open PySem L2 ClX StX PySem.Spec PyProof.Rows PySem.Calls
/-! ### {k: v for x in xs if t}: a new handle -/
section
variable {Y : WX} {K : PySem.W.Frag} {C : Ctx} {W W' : Vw} {σ : L2.St} {H : Hp} {s : S} {v w : V} {a b d : PV} {Q : VK} {k : Key} {ca cb cc : M PV}
theorem RepO.getD {o : Option V} {q : Option PV} {u : V} {d : PV} (r : RepO K W o q) (ru : Rep K W u d) : Rep K W (o.getD u) (q.getD d) := by
  cases r with
  | no => exact ru
  | so h => exact h
end
end Dn
/-! Dt3: dicts walked, sorted, counted, copied; displays; keys. -/
namespace Dn
open PySem L2 ClX StX PySem.Spec PyProof.Rows PySem.Calls
section
variable {Y : WX} {K : PySem.W.Frag} {C : Ctx} {W W' : Vw} {σ : L2.St} {H : Hp} {s : S} {v w : V} {a b d : PV} {Q : VK} {k : Key} {ca cb cc : M PV}
theorem RdV.dic {kvs : List (Key × PV)} (at' : At K C W s σ H) (r : RdV K W H v d) (e : dicP s.sto d = some kvs) : ∃ x q, v = .ref x ∧ Rd H x (.dK q) ∧ KVs K W q kvs := by
  cases r with
  | rep r => exact dic_rep at' r e
  | own => cases e
/-! ### walked -/
/-! ### len -/
/-! ### sorted -/
end
end Dn
/-! Dt4: sorted and min of whatever; isinstance against several built-in types; dict(..); displays; keys; pop(); a, b = [..], e. -/
namespace Dn
open PySem L2 ClX StX PySem.Spec PyProof.Rows PySem.Calls
section
variable {Y : WX} {K : PySem.W.Frag} {C : Ctx} {W W' : Vw} {σ : L2.St} {H : Hp} {s : S} {v w : V} {a b d : PV} {Q : VK} {k : Key} {ca cb cc : M PV}
/-! ### sorted -/
/-! ### min of texts -/
/-! ### isinstance against several built-in types -/
/-! ### dict(..): a new dict -/
def pairP : PV → Option (Key × PV)
  | .tup [k, v] => (keyP k).map fun k => (k, v)
  | _ => none
def pairsP : List PV → Option (List (Key × PV))
  | [] => some []
  | d :: ds => match pairP d, pairsP ds with
    | some p, some ps => some (p :: ps)
    | _, _ => none
def fDict (a : PV) : M (List (Key × PV)) := fun s => match dicP s.sto a with
  | some kvs => .ok kvs s
  | none => match a with
    | .lst ds => (match pairsP ds with
      | some kvs => .ok (mergeP [] kvs) s
      | none => .stk)
    | _ => .stk
/-! ### displays with any keys -/
/-! ### (a, b) as a key -/
/-! ### xs.pop() -/
end
end Dn
/-! Dt5: a, b = [..], e; nested patterns; is of truth values; while of an own list; rows of own getitem and contains. -/
namespace Dn
open PySem L2 ClX StX PySem.Spec PyProof.Rows PySem.Calls
/-! ### in rows -/
end Dn
/-! Dt6: < <= > >= of ints or texts. -/
namespace Dn
open PySem L2 ClX StX PySem.Spec PyProof.Rows PySem.Calls
end Dn
/-! Dt7: a list repeated, kept as an own list. -/
namespace Dn
open PySem L2 ClX StX PySem.Spec PyProof.Rows PySem.Calls
end Dn
/-! Tg: a module's tuple of texts read. -/
namespace Dn
open PySem L2 ClX StX NdefX PySem.Spec PyProof.Rows
end Dn
/-! Sv1: methods with a star parameter. -/
namespace Dn
open PySem L2 ClX StX NdefX PySem.Spec PyProof.Rows
end Dn
/-! Sv2: a chain as a test; the values of an own dict, key by key. -/
namespace Dn
open PySem L2 ClX StX NdefX PySem.Spec PyProof.Rows
/-! ### [d[k] for k in d] -/
section
variable {K : PySem.W.Frag} {W W' : Vw} {a : Addr}
theorem KVs.split {κ : Type} : ∀ {us : List (κ × V)} {ds : List (κ × PV)}, KVs K W us ds → Reps K W (us.map (·.2)) (ds.map (·.2)) ∧ us = (ds.map (·.1)).zip (us.map (·.2)) ∧ us.length = ds.length
  | _, _, .nil => ⟨.nil, rfl, rfl⟩
  | _, _, .cons (k := k) (v := v) (d := d) (r := r) (s := s) q t => by
    obtain ⟨h1, h2, h3⟩ := KVs.split t
    refine ⟨.cons q h1, ?_, by rw [List.length_cons, List.length_cons, h3]⟩
    show (k, v) :: r = (k, v) :: ((s.map (·.1)).zip (r.map (·.2)))
    rw [← h2]
end
end Dn
/-! Sv3: calls that leave out keyword-only arguments with defaults. -/
namespace Dn
open PySem L2 ClX StX NdefX PySem.Spec PyProof.Rows
end Dn
/-! Sv4: a def's keyword-only defaults, left out. -/
namespace Dn
open PySem L2 ClX StX NdefX PySem.Spec PyProof.Rows
end Dn
/-! Sv5: d.clear(). -/
namespace Dn
open PySem L2 ClX StX NdefX PySem.Spec PyProof.Rows
end Dn
/-! Sv6: an expression that reads a live own dict as if it were frozen: its keys, walked. -/
namespace Dn
open PySem L2 ClX StX NdefX PySem.Spec PyProof.Rows
/-! ### isinstance(x, dict), x a live dict perhaps -/
end Dn
set_option maxHeartbeats 4000000
/-! Se1: set(xs) of a list of ints, sorted(set(xs)). -/
namespace Dn
open PySem L2 ClX StX NdefX PySem.Spec PyProof.Rows
end Dn
/-! Se2: sorted(set(xs)), xs a list of ints. -/
namespace Dn
open PySem L2 ClX StX NdefX PySem.Spec PyProof.Rows
end Dn
set_option maxHeartbeats 4000000
/-! So1: sorted(rows), the rows tuples whose first items are texts, no two the same. -/
namespace Dn
open PySem L2 ClX StX NdefX PySem.Spec PyProof.Rows
/-- the head of a row, as data -/
def dHead : PyData → Option Str
  | .tuple (.str x :: _) => some x
  | _ => none
structure RowsOk (ds : List PyData) (hs : List Str) : Prop where
  heads : ds.map dHead = hs.map some
  nd : hs.Nodup
  like : ∀ d ∈ ds, PySem.W.alike d d = true
  depth : ∀ d ∈ ds, d.depth ≤ 64
theorem dHead_some {d : PyData} {x : Str} (h : dHead d = some x) : ∃ r, d = .tuple (.str x :: r) := by
  unfold dHead at h
  split at h
  · cases h
    exact ⟨_, rfl⟩
  · cases h
theorem RowsOk.at {ds : List PyData} {hs : List Str} (R : RowsOk ds hs) {d : PyData} (h : d ∈ ds) : ∃ x r, d = .tuple (.str x :: r) ∧ dHead d = some x := by
  have hm : dHead d ∈ hs.map some := by
    rw [← R.heads]
    exact List.mem_map.mpr ⟨d, h, rfl⟩
  obtain ⟨x, _, e⟩ := List.mem_map.mp hm
  obtain ⟨r, e2⟩ := dHead_some e.symm
  exact ⟨x, r, e2, e.symm⟩
theorem RowsOk.same {ds : List PyData} {hs : List Str} (R : RowsOk ds hs) {d d' : PyData} (h : d ∈ ds) (h' : d' ∈ ds) (e : dHead d = dHead d') : d = d' := by
  obtain ⟨i, hi⟩ := List.getElem?_of_mem h
  obtain ⟨j, hj⟩ := List.getElem?_of_mem h'
  have e1 : (hs.map some)[i]? = (hs.map some)[j]? := by
    rw [← R.heads, List.getElem?_map, List.getElem?_map, hi, hj]
    exact congrArg some e
  have hlen : ds.length = hs.length := by
    have := congrArg List.length R.heads
    rwa [List.length_map, List.length_map] at this
  have hl : i < hs.length := by
    rw [← hlen]
    exact (List.getElem?_eq_some_iff.mp hi).1
  have hl2 : j < hs.length := by
    rw [← hlen]
    exact (List.getElem?_eq_some_iff.mp hj).1
  rw [List.getElem?_map, List.getElem?_map, List.getElem?_eq_getElem hl, List.getElem?_eq_getElem hl2] at e1
  have e2 : hs[i]? = hs[j]? := by
    rw [List.getElem?_eq_getElem hl, List.getElem?_eq_getElem hl2]
    exact congrArg some (Option.some.inj (Option.some.inj e1))
  have := (List.getElem?_inj hl R.nd).mp e2
  subst this
  rw [hi] at hj
  exact Option.some.inj hj
end Dn
set_option maxHeartbeats 4000000
/-! So2: sorted of whatever: rows too. -/
namespace Dn
open PySem L2 ClX StX NdefX PySem.Spec PyProof.Rows
end Dn
set_option maxHeartbeats 4000000
/-! So4: a text times a number, int(text). -/
namespace Dn
open PySem L2 ClX StX NdefX PySem.Spec PyProof.Rows
end Dn
set_option maxHeartbeats 4000000
/-! So5: max of a list or tuple of ints. -/
namespace Dn
open PySem L2 ClX StX NdefX PySem.Spec PyProof.Rows
end Dn
set_option maxHeartbeats 4000000
/-! So6: three names at once, the second one an own list. -/
namespace Dn
open PySem L2 ClX StX NdefX PySem.Spec PyProof.Rows
end Dn
set_option maxHeartbeats 4000000
/-! So7: repr of a dict of texts to numbers or None, frozen or live. -/
namespace Dn
open PySem L2 ClX StX NdefX PySem.Spec PyProof.Rows
def oD : Option Int → PyData
  | none => .none
  | some i => .int i
end Dn
set_option maxHeartbeats 4000000
/-! So8: the values of a dict walked; three names at once, the third one an own list. -/
namespace Dn
open PySem L2 ClX StX NdefX PySem.Spec PyProof.Rows
end Dn
set_option maxHeartbeats 4000000
/-! So10: dicts of texts to numbers or None compared by !=: of other lengths, or equal. -/
namespace Dn
open PySem L2 ClX StX NdefX PySem.Spec PyProof.Rows
end Dn
set_option maxHeartbeats 4000000
/-! So11: list of a dict: its keys. -/
namespace Dn
open PySem L2 ClX StX NdefX PySem.Spec PyProof.Rows
end Dn
set_option maxHeartbeats 4000000
/-! So12: a method with a star parameter called without arguments. -/
namespace Dn
open PySem L2 ClX StX NdefX PySem.Spec PyProof.Rows
end Dn
set_option maxHeartbeats 4000000
/-! So14: xs.extend(ys), len(set(xs)) of texts. -/
namespace Dn
open PySem L2 ClX StX NdefX PySem.Spec PyProof.Rows
/-! ### how many texts differ -/
/-! ### set(xs) -/
/-! ### xs.extend(ys) -/
end Dn
set_option maxHeartbeats 4000000
/-! So15: defs that return a list of their own, which the caller may change; three names at once, some of them own lists. -/
namespace Dn
open PySem L2 ClX StX NdefX PySem.Spec PyProof.Rows
section
variable {Y : WX} {X : Cx} {K : PySem.W.Frag} {D : Ends} {σ : L2.St} {H : Hp} {Q : VK} {ca cc : M PV} {cb cd ce : M (List PV)} {a b c e : Expr} {p pos px : Pos} {i j k : Nat}
/-! ### return of an own list -/
/-! ### a slice that a name will own -/
def slO (c : M PV) (lo hi : M (Option Int)) : M (List PV) := bnd c fun d => bnd lo fun a => bnd hi fun b => lft (match d with
  | .lst xs => some (cutP xs a b)
  | _ => none)
theorem denO_sl {lo hi : M (Option Int)} (h : denO K Y (slO ca lo hi) σ H Q) : tSl (rSlU K) (den K Y ca) (denP K Y lo) (denP K Y hi) σ H Q := by
  obtain ⟨C, W, s, at', p⟩ := h
  refine ⟨C, W, s, at', (Pst.bnd p).imp fun d s1 W1 H1 l1 at1 p1 v rv => ⟨C, W1, s1, at1, (Pst.bnd p1).imp fun a s2 W2 H2 l2 at2 p2 => ⟨C, W2, s2, at2, (Pst.bnd p2).imp fun b s3 W3 H3 l3 at3 p3 => ?_⟩⟩⟩
  obtain ⟨z, ez, q⟩ := p3.lft at3
  have rv := rv.mono (l2.trans l3)
  cases d <;> try cases ez
  cases rv with
  | lst hx rx => exact .inl (.inl ⟨_, _, rfl, SqL.of (at3.ok.sub _ _ hx), fun p hp => q p _ hp (rx.cut a b)⟩)
/-! ### calls -/
abbrev FnL := Nat → List PV → List MO → Res (List MO) (List PV)
end
/-! ### in rows -/
section
variable {Y : WX} {X : Cx} {K : PySem.W.Frag} {D : Ends} {σ : L2.St} {H : Hp} {Q : VK} {ca cc : M PV} {cb cd ce cs : M (List PV)} {a b c e : Expr} {es : List Expr} {p pos px : Pos} {i j k l : Nat} {m : FnL} {x : Str} {ps : List Str}
theorem osl {lo hi : Option Expr} {clo chi : M (Option Int)} {p2 : Pos} (h : PE X e (den X.K Y ca)) (hl : PO X lo (denP X.K Y clo)) (hu : PO X hi (denP X.K Y chi)) : PE X (.Subscript e (.Slice lo hi none p2) pos) (denO X.K Y (slO ca clo chi)) := pe_imp (pe_slice sl_u h hl hu) fun _ _ _ => denO_sl
/-! ### three names at once -/
variable {y z : Str} {kt k2 : Nat} {py pz pt pt2 : Pos}
end
end Dn
/-! Gn1: code that runs while a generator sleeps leaves it asleep: what a run does is the same whatever the sleepers would do. -/
namespace Gn
open PySem PySem.Spec PyProof.Rows
open Sem (wp)
/-- a sleeper that cannot be woken -/
def poison : GenState → GenState
  | .suspended _ l c p fs cl => .suspended (fun _ => .unsupported "asleep") l c p fs cl
  | x => x
def asleep : GenState → Prop
  | .suspended .. => True
  | _ => False
def tidy : GenState → Prop
  | .suspended _ _ _ _ fs _ => splitAtGen fs = none
  | _ => True
theorem poison_seen (x : GenState) : (poison x).seen = x.seen := by cases x <;> rfl
theorem poison_bare (x : GenState) : (poison x).bare = x.bare := by cases x <;> rfl
/-- r is the real state, s the one whose sleepers D are poisoned -/
structure Rel (D : Nat → Prop) (f : Nat → GenState) (s r : Shared) : Prop where
  eq : s = { r with gens := s.gens }
  sz : s.gens.size = r.gens.size
  d : ∀ h, D h → asleep (f h) ∧ r.gens[h]? = some (f h) ∧ s.gens[h]? = some (poison (f h))
  o : ∀ h, ¬ D h → s.gens[h]? = r.gens[h]? ∧ ∀ x, s.gens[h]? = some x → tidy x
def tidyE : End → Prop
  | .susp _ _ _ _ _ _ fs => splitAtGen fs = none
  | _ => True
section
variable {D : Nat → Prop} {f : Nat → GenState} {s r : Shared}
theorem Rel.heap (h : Rel D f s r) : s.heap = r.heap := by rw [h.eq]
theorem Rel.toks (h : Rel D f s r) : s.toks = r.toks := by rw [h.eq]
theorem Rel.drawn (h : Rel D f s r) : s.drawn = r.drawn := by rw [h.eq]
theorem Rel.os (h : Rel D f s r) : s.os = r.os := by rw [h.eq]
theorem Rel.to (h : Rel D f s r) {h' : Heap} {d' : Drawn} {t' : Nat} {o' : OsState} : Rel D f { s with heap := h', drawn := d', toks := t', os := o' } { r with heap := h', drawn := d', toks := t', os := o' } := ⟨rfl, h.sz, h.d, h.o⟩
theorem setGen_get {s : Shared} {g h : Nat} {x : GenState} : (s.setGen g x).gens[h]? = if g = h ∧ g < s.gens.size then some x else s.gens[h]? := by
  show (s.gens.setIfInBounds g x)[h]? = _
  by_cases e : g = h
  · subst e
    by_cases l : g < s.gens.size
    · rw [if_pos ⟨rfl, l⟩]; simp [l]
    · rw [if_neg (fun z => l z.2)]
      rw [Array.getElem?_eq_none (by simpa using l), Array.getElem?_eq_none (by omega)]
  · rw [if_neg (fun z => e z.1), Array.getElem?_setIfInBounds_ne e]
theorem Rel.set (h : Rel D f s r) {g : Nat} (hg : ¬ D g) {x : GenState} (hx : tidy x) : Rel D f (s.setGen g x) (r.setGen g x) := by
  refine ⟨?_, ?_, fun k hk => ?_, fun k hk => ?_⟩
  · show ({ s with gens := _ } : Shared) = _
    rw [h.eq]
    rfl
  · show (s.gens.setIfInBounds g x).size = (r.gens.setIfInBounds g x).size
    rw [Array.size_setIfInBounds, Array.size_setIfInBounds]; exact h.sz
  · obtain ⟨h0, h1, h2⟩ := h.d k hk
    have ne : g ≠ k := fun z => hg (z ▸ hk)
    rw [setGen_get, setGen_get, if_neg (fun z => ne z.1), if_neg (fun z => ne z.1)]
    exact ⟨h0, h1, h2⟩
  · rw [setGen_get, setGen_get, h.sz]
    obtain ⟨h1, h2⟩ := h.o k hk
    split
    · exact ⟨rfl, fun y e => by cases e; exact hx⟩
    · exact ⟨h1, h2⟩
theorem Rel.push (h : Rel D f s r) {c : Code} : Rel D f { s with gens := s.gens.push (.fresh c) } { r with gens := r.gens.push (.fresh c) } := by
  refine ⟨?_, ?_, fun k hk => ?_, fun k hk => ?_⟩
  · rw [h.eq]
  · show (s.gens.push _).size = (r.gens.push _).size
    rw [Array.size_push, Array.size_push, h.sz]
  · obtain ⟨h0, h1, h2⟩ := h.d k hk
    have l1 : k < r.gens.size := (Array.getElem?_eq_some_iff.mp h1).1
    have l2 : k < s.gens.size := (Array.getElem?_eq_some_iff.mp h2).1
    refine ⟨h0, ?_, ?_⟩
    · show (r.gens.push _)[k]? = _
      rw [Array.getElem?_push, if_neg (by omega)]; exact h1
    · show (s.gens.push _)[k]? = _
      rw [Array.getElem?_push, if_neg (by omega)]; exact h2
  · obtain ⟨h1, h2⟩ := h.o k hk
    show (s.gens.push _)[k]? = (r.gens.push _)[k]? ∧ ∀ x, (s.gens.push _)[k]? = some x → tidy x
    rw [Array.getElem?_push, Array.getElem?_push, h.sz]
    split
    · exact ⟨rfl, fun y e => by cases e; trivial⟩
    · exact ⟨h1, h2⟩
/-- what is seen of a generator is the same -/
theorem Rel.seen (h : Rel D f s r) {g : Nat} {st : GenState} (e : s.gens[g]? = some st) : ∃ st', r.gens[g]? = some st' ∧ st'.seen = st.seen := by
  by_cases hd : D g
  · obtain ⟨_, h1, h2⟩ := h.d g hd
    rw [e] at h2
    cases h2
    exact ⟨_, h1, (poison_seen _).symm⟩
  · exact ⟨st, (h.o g hd).1 ▸ e, rfl⟩
/-- who is not asleep under poison is the same -/
theorem Rel.same (h : Rel D f s r) {g : Nat} {st : GenState} (e : s.gens[g]? = some st) (hn : ∀ l c p fs cl, st ≠ .suspended (fun _ => .unsupported "asleep") l c p fs cl) : ¬ D g ∧ r.gens[g]? = some st ∧ tidy st := by
  by_cases hd : D g
  · obtain ⟨h0, h1, h2⟩ := h.d g hd
    rw [e] at h2
    cases h2
    cases q : f g with
    | suspended k l c p fs cl => exact absurd (by rw [q]; rfl) (hn l c p fs cl)
    | fresh => rw [q] at h0; exact h0.elim
    | running => rw [q] at h0; exact h0.elim
    | finished => rw [q] at h0; exact h0.elim
  · exact ⟨hd, (h.o g hd).1 ▸ e, (h.o g hd).2 st e⟩
end
theorem genState_tidy {e : End} (h : tidyE e) : tidy e.genState := by
  cases e with
  | ret r => trivial
  | susp => exact h
theorem split_append : ∀ {fs gs : List Frame}, splitAtGen fs = none → splitAtGen gs = none → splitAtGen (fs ++ gs) = none
  | [], _, _, h => h
  | .ret .. :: fs, gs, h, k => by
    have h' : splitAtGen fs = none := by
      have : (splitAtGen fs).map _ = none := h
      exact Option.map_eq_none_iff.mp this
    show (splitAtGen (fs ++ gs)).map _ = none
    rw [split_append h' k]; rfl
  | .gen .. :: fs, gs, h, k => by cases h
theorem split_ret {k : Result → Sem PySem.Fin} {h : Option Value} {g : Bool} {l kp : List Value} {c : Code} {p : Pos} {fs : List Frame} (e : splitAtGen (.ret k h g l c p kp :: fs) = none) : splitAtGen fs = none := by
  have : (splitAtGen fs).map _ = none := e
  exact Option.map_eq_none_iff.mp this
theorem runs_uns {M : Model} {Γ : PySem.Ctx} {p : Pos} {t : Sem PySem.Fin} {fs : List Frame} {s s' : Shared} {e : End} (h : Runs M Γ p t fs s e s') : ∀ w, t ≠ .unsupported w := by
  induction h <;> intro w z <;> first
    | (cases z; done)
    | (rename_i ih _; exact ih w z)
    | (rename_i ih; exact ih w z)
    | (rename_i ih1 ih2; exact ih1 w z)
    | cases z
section
variable {D : Nat → Prop} {f : Nat → GenState} {s r : Shared}
theorem Rel.heapU (h : Rel D f s r) (F : Heap → Heap) : Rel D f { s with heap := F s.heap } { r with heap := F r.heap } := ⟨by rw [h.eq], h.sz, h.d, h.o⟩
theorem Rel.toksU (h : Rel D f s r) (F : Nat → Nat) : Rel D f { s with toks := F s.toks } { r with toks := F r.toks } := ⟨by rw [h.eq], h.sz, h.d, h.o⟩
theorem Rel.drawnU (h : Rel D f s r) (F : Drawn → Drawn) : Rel D f { s with drawn := F s.drawn } { r with drawn := F r.drawn } := ⟨by rw [h.eq], h.sz, h.d, h.o⟩
theorem Rel.osU (h : Rel D f s r) (F : OsState → OsState) : Rel D f { s with os := F s.os } { r with os := F r.os } := ⟨by rw [h.eq], h.sz, h.d, h.o⟩
end
/-- THE SIMULATION -/
theorem sim {M : Model} {D : Nat → Prop} {f : Nat → GenState} {Γ : PySem.Ctx} {p : Pos} {t : Sem PySem.Fin} {fs : List Frame} {s s' : Shared} {e : End} (h : Runs M Γ p t fs s e s') :
    ∀ r, splitAtGen fs = none → Rel D f s r → ∃ r', Runs M Γ p t fs r e r' ∧ Rel D f s' r' ∧ tidyE e := by
  induction h with
  | done => exact fun r _ R => ⟨r, .done, R, trivial⟩
  | raise => exact fun r _ R => ⟨r, .raise, R, trivial⟩
  | again q _ ih => exact fun r hs R => let ⟨r', a, b, c⟩ := ih r hs R; ⟨r', .again q a, b, c⟩
  | rule _ ih => exact fun r hs R => let ⟨r', a, b, c⟩ := ih r hs R; ⟨r', .rule a, b, c⟩
  | «at» _ ih => exact fun r hs R => let ⟨r', a, b, c⟩ := ih r hs R; ⟨r', .at a, b, c⟩
  | load q _ ih => exact fun r hs R => let ⟨r', a, b, c⟩ := ih r hs R; ⟨r', .load (R.heap ▸ q) a, b, c⟩
  | update q _ ih => exact fun r hs R => let ⟨r', a, b, c⟩ := ih _ hs (R.heapU fun h => h.update _ _); ⟨r', .update (R.heap ▸ q) a, b, c⟩
  | loadIfAlive _ ih => exact fun r hs R => let ⟨r', a, b, c⟩ := ih r hs R; ⟨r', .loadIfAlive (R.heap ▸ a), b, c⟩
  | point _ ih => exact fun r hs R => let ⟨r', a, b, c⟩ := ih r hs R; ⟨r', .point a, b, c⟩
  | alloc _ ih => exact fun r hs R => let ⟨r', a, b, c⟩ := ih _ hs (R.heapU fun h => h.push _); ⟨r', .alloc (R.heap ▸ a), b, c⟩
  | fresh _ ih => exact fun r hs R => let ⟨r', a, b, c⟩ := ih _ hs (R.toksU fun h => h + 1); ⟨r', .fresh (R.toks ▸ a), b, c⟩
  | ask _ ih => exact fun r hs R => let ⟨r', a, b, c⟩ := ih r hs R; ⟨r', .ask a, b, c⟩
  | choose q _ ih => exact fun r hs R => let ⟨r', a, b, c⟩ := ih _ hs (R.drawnU fun h => h.bump _); ⟨r', .choose q (R.drawn ▸ a), b, c⟩
  | os _ ih => exact fun r hs R => let ⟨r', a, b, c⟩ := ih _ hs (R.osU fun h => (Os.step h _).1); ⟨r', .os (R.os ▸ a), b, c⟩
  | handled _ ih => exact fun r hs R => let ⟨r', a, b, c⟩ := ih r hs R; ⟨r', .handled a, b, c⟩
  | genState q _ ih => exact fun r hs R => let ⟨st', e1, e2⟩ := R.seen q; let ⟨r', a, b, c⟩ := ih r hs R; ⟨r', .genState e1 (e2 ▸ a), b, c⟩
  | stack _ ih => exact fun r hs R => let ⟨r', a, b, c⟩ := ih r hs R; ⟨r', .stack a, b, c⟩
  | thread _ ih => exact fun r hs R => let ⟨r', a, b, c⟩ := ih r hs R; ⟨r', .thread a, b, c⟩
  | newGen _ ih => exact fun r hs R => let ⟨r', a, b, c⟩ := ih _ hs R.push; ⟨r', .newGen (R.sz ▸ a), b, c⟩
  | call _ _ ih1 ih2 =>
    intro r hs R
    obtain ⟨r1, a1, R1, _⟩ := ih1 r rfl R
    obtain ⟨r2, a2, R2, c⟩ := ih2 r1 rfl R1
    exact ⟨r2, .call a1 a2, R2, c⟩
  | callSusp _ ih =>
    intro r hs R
    obtain ⟨r1, a1, R1, c⟩ := ih r rfl R
    exact ⟨r1, .callSusp a1, R1, split_append c rfl⟩
  | yield => exact fun r hs R => ⟨r, .yield, R, rfl⟩
  | resumeFresh q _ hq _ ih1 ih2 =>
    intro r hs R
    obtain ⟨hd, e1, _⟩ := R.same q (fun _ _ _ _ _ z => nomatch z)
    obtain ⟨r1, a1, R1, c1⟩ := ih1 _ rfl (R.set hd (x := .running) trivial)
    obtain ⟨r2, a2, R2, c2⟩ := ih2 _ rfl (R1.set hd (genState_tidy c1))
    exact ⟨r2, .resumeFresh e1 a1 hq a2, R2, c2⟩
  | resumeSuspended q run hq _ ih1 ih2 =>
    intro r hs R
    obtain ⟨hd, e1, td⟩ := R.same q (fun _ _ _ _ _ z => by
      cases z
      exact runs_uns run _ rfl)
    obtain ⟨r1, a1, R1, c1⟩ := ih1 _ td (R.set hd (x := .running) trivial)
    obtain ⟨r2, a2, R2, c2⟩ := ih2 _ rfl (R1.set hd (genState_tidy c1))
    exact ⟨r2, .resumeSuspended e1 a1 hq a2, R2, c2⟩
  | resumeJustStarted q hv _ ih =>
    intro r hs R
    obtain ⟨_, e1, _⟩ := R.same q (fun _ _ _ _ _ z => nomatch z)
    obtain ⟨r1, a1, R1, c⟩ := ih r rfl R
    exact ⟨r1, .resumeJustStarted e1 hv a1, R1, c⟩
  | resumeThrowFresh q _ ih =>
    intro r hs R
    obtain ⟨hd, e1, _⟩ := R.same q (fun _ _ _ _ _ z => nomatch z)
    obtain ⟨r1, a1, R1, c⟩ := ih _ rfl (R.set hd (x := .finished) trivial)
    exact ⟨r1, .resumeThrowFresh e1 a1, R1, c⟩
  | resumeRunning q _ ih =>
    intro r hs R
    obtain ⟨_, e1, _⟩ := R.same q (fun _ _ _ _ _ z => nomatch z)
    obtain ⟨r1, a1, R1, c⟩ := ih r rfl R
    exact ⟨r1, .resumeRunning e1 a1, R1, c⟩
  | resumeFinished q _ ih =>
    intro r hs R
    obtain ⟨_, e1, _⟩ := R.same q (fun _ _ _ _ _ z => nomatch z)
    obtain ⟨r1, a1, R1, c⟩ := ih r rfl R
    exact ⟨r1, .resumeFinished e1 a1, R1, c⟩
  | segRet _ _ ih1 ih2 =>
    intro r hs R
    obtain ⟨r1, a1, R1, _⟩ := ih1 r rfl R
    obtain ⟨r2, a2, R2, c⟩ := ih2 r1 (split_ret hs) R1
    exact ⟨r2, .segRet a1 a2, R2, c⟩
  | segGen => exact fun r hs R => nomatch hs
  | segSuspOut q _ ih =>
    intro r hs R
    obtain ⟨r1, a1, R1, c⟩ := ih r rfl R
    exact ⟨r1, .segSuspOut q a1, R1, split_append c hs⟩
  | segSuspGen q => exact fun r hs R => by rw [q] at hs; cases hs
theorem sim_wakes {M : Model} {D : Nat → Prop} {f : Nat → GenState} {Γ : PySem.Ctx} {p : Pos} {g : Nat} {rs : Resume} {s s' r : Shared} {res : GenResult} (h : Wakes M Γ p g rs s res s') (R : Rel D f s r) : ∃ r', Wakes M Γ p g rs r res r' ∧ Rel D f s' r' := by
  unfold Wakes at h
  split at h
  · exact h.elim
  · rename_i c q
    obtain ⟨hd, e1, _⟩ := R.same q (fun _ _ _ _ _ z => nomatch z)
    split at h
    · obtain ⟨e₁, s₁, hr, hq, h1, rfl⟩ := h
      obtain ⟨r1, a1, R1, c1⟩ := sim hr _ rfl (R.set hd (x := .running) trivial)
      exact ⟨_, by unfold Wakes; rw [e1]; exact ⟨e₁, r1, a1, hq, h1, rfl⟩, R1.set hd (genState_tidy c1)⟩
    · rename_i v hv
      obtain ⟨h1, rfl⟩ := h
      refine ⟨r, ?_, R⟩
      unfold Wakes
      rw [e1]
      cases v <;> first | exact ⟨h1, rfl⟩ | exact (hv rfl).elim
    · obtain ⟨h1, rfl⟩ := h
      exact ⟨_, by unfold Wakes; rw [e1]; exact ⟨h1, rfl⟩, R.set hd (x := .finished) trivial⟩
  · rename_i k₀ _ c₀ p₀ fs _ q
    obtain ⟨e₁, s₁, hr, hq, h1, rfl⟩ := h
    obtain ⟨hd, e1, td⟩ := R.same q (fun _ _ _ _ _ z => by
      cases z
      exact runs_uns hr _ rfl)
    obtain ⟨r1, a1, R1, c1⟩ := sim hr _ td (R.set hd (x := .running) trivial)
    exact ⟨_, by unfold Wakes; rw [e1]; exact ⟨e₁, r1, a1, hq, h1, rfl⟩, R1.set hd (genState_tidy c1)⟩
  · rename_i q
    obtain ⟨_, e1, _⟩ := R.same q (fun _ _ _ _ _ z => nomatch z)
    obtain ⟨h1, rfl⟩ := h
    exact ⟨r, by unfold Wakes; rw [e1]; exact ⟨h1, rfl⟩, R⟩
  · rename_i q
    obtain ⟨_, e1, _⟩ := R.same q (fun _ _ _ _ _ z => nomatch z)
    obtain ⟨h1, rfl⟩ := h
    exact ⟨r, by unfold Wakes; rw [e1]; exact ⟨h1, rfl⟩, R⟩
theorem sim_wp {α : Type} {M : Model} {D : Nat → Prop} {f : Nat → GenState} {Γ : PySem.Ctx} (t : Sem α) : ∀ {Q : α → Pos → Shared → Prop} {E : Value → Pos → Shared → Prop} {p : Pos} {s r : Shared}, wp M Γ t Q E p s → Rel D f s r →
    wp M Γ t (fun a p' r' => ∃ s', Rel D f s' r' ∧ Q a p' s') (fun e p' r' => ∃ s', Rel D f s' r' ∧ E e p' s') p r := by
  induction t with
  | pure a => intro Q E p s r h R; exact ⟨s, R, h⟩
  | raise e => intro Q E p s r h R; exact ⟨s, R, h⟩
  | unsupported _ => intro Q E p s r h R; exact h
  | finish _ => intro Q E p s r h R; exact h
  | rule _ k ih => intro Q E p s r h R; exact ih () h R
  | «at» p' k ih => intro Q E p s r h R; exact ih () h R
  | load a _ k ih => intro Q E p s r h R; obtain ⟨o, ho, h⟩ := h; exact ⟨o, R.heap ▸ ho, ih o h R⟩
  | update a _ F k ih => intro Q E p s r h R; exact ⟨R.heap ▸ h.1, ih () h.2 (R.heapU fun h => h.update a F)⟩
  | loadIfAlive a k ih => intro Q E p s r h R; have z := ih _ h R; rw [R.heap] at z; exact z
  | point _ k ih => intro Q E p s r h R; exact ih () h R
  | register _ _ => intro Q E p s r h R; exact h
  | alloc o k ih => intro Q E p s r h R; have z := ih _ h (R.heapU fun h => h.push o); rw [R.heap] at z; exact z
  | fresh k ih => intro Q E p s r h R; have z := ih _ h (R.toksU fun h => h + 1); rw [R.toks] at z; exact z
  | ask k ih => intro Q E p s r h R; exact ih _ h R
  | choose src m k ih => intro Q E p s r h R; have z := ih _ h.2 (R.drawnU fun h => h.bump src); rw [R.drawn] at z; exact ⟨h.1, z⟩
  | os q _ k ih => intro Q E p s r h R; have z := ih _ h (R.osU fun h => (Os.step h q).1); rw [R.os] at z; exact z
  | call c hd _ _ k ih =>
    intro Q E p s r h R
    obtain ⟨x, s', hr, h⟩ := h
    obtain ⟨r', a, R', _⟩ := sim hr r rfl R
    exact ⟨x, r', a, ih x h R'⟩
  | handled own k ih => intro Q E p s r h R; exact ih _ h R
  | genState g k ih =>
    intro Q E p s r h R
    obtain ⟨st, hs, h⟩ := h
    obtain ⟨st', e1, e2⟩ := R.seen hs
    exact ⟨st', e1, e2 ▸ ih _ h R⟩
  | newGen c k ih => intro Q E p s r h R; have z := ih _ h R.push; rw [R.sz] at z; exact z
  | resume g x _ k ih =>
    intro Q E p s r h R
    obtain ⟨res, s', hw, h⟩ := h
    obtain ⟨r', a, R'⟩ := sim_wakes hw R
    exact ⟨res, r', a, ih res h R'⟩
  | yield _ _ _ _ => intro Q E p s r h R; exact h
  | stack k ih => intro Q E p s r h R; exact ih _ h R
  | fork _ _ => intro Q E p s r h R; exact h
  | thread k ih => intro Q E p s r h R; exact ih _ h R
  | await _ _ _ _ _ => intro Q E p s r h R; exact h
theorem sim_any {α : Type} {M : Model} {D : Nat → Prop} {f : Nat → GenState} {A : Around} {t : Sem α} {Q : α → Shared → Prop} {E : Value → Shared → Prop} {s r : Shared} (h : wpAny M A t Q E s) (R : Rel D f s r) :
    wpAny M A t (fun a r' => ∃ s', Rel D f s' r' ∧ Q a s') (fun e r' => ∃ s', Rel D f s' r' ∧ E e s') r := fun Γ p hΓ => sim_wp t (h Γ p hΓ) R
/-- every sleeper poisoned -/
def lull (r : Shared) : Shared := { r with gens := r.gens.map poison }
def dozing (r : Shared) (h : Nat) : Prop := ∃ x, r.gens[h]? = some x ∧ asleep x
theorem rel_lull (r : Shared) : Rel (dozing r) (fun h => (r.gens[h]?).getD .running) (lull r) r := by
  refine ⟨rfl, by simp [lull], fun h hd => ?_, fun h hd => ?_⟩
  · obtain ⟨x, e, a⟩ := hd
    refine ⟨?_, ?_, ?_⟩
    · show asleep ((r.gens[h]?).getD _)
      rw [e]; exact a
    · show r.gens[h]? = some ((r.gens[h]?).getD _)
      rw [e]; rfl
    · show (r.gens.map poison)[h]? = some (poison ((r.gens[h]?).getD _))
      rw [Array.getElem?_map, e]; rfl
  · show (r.gens.map poison)[h]? = r.gens[h]? ∧ ∀ x, (r.gens.map poison)[h]? = some x → tidy x
    rw [Array.getElem?_map]
    cases e : r.gens[h]? with
    | none => exact ⟨rfl, fun x z => nomatch z⟩
    | some x =>
      cases x with
      | suspended k l c p fs cl => exact absurd ⟨_, e, trivial⟩ hd
      | fresh c => exact ⟨rfl, fun x z => by cases z; trivial⟩
      | running => exact ⟨rfl, fun x z => by cases z; trivial⟩
      | finished => exact ⟨rfl, fun x z => by cases z; trivial⟩
theorem bare_lull {r : Shared} (h : AllBare r.gens) : AllBare (lull r).gens := fun x hx => by
  obtain ⟨y, hy, e⟩ := Array.mem_map.mp (show x ∈ r.gens.map poison from hx)
  subst e
  rw [poison_bare]
  exact h y hy
theorem Rel.bare {D : Nat → Prop} {f : Nat → GenState} {s r : Shared} (h : Rel D f s r) (hb : AllBare s.gens) : AllBare r.gens := fun x hx => by
  obtain ⟨i, hi, e⟩ := Array.mem_iff_getElem.mp hx
  have q : r.gens[i]? = some x := by rw [Array.getElem?_eq_getElem hi, e]
  by_cases hd : D i
  · obtain ⟨_, h1, h2⟩ := h.d i hd
    rw [q] at h1
    have z := hb _ (Array.mem_of_getElem? h2)
    rw [poison_bare] at z
    cases h1
    exact z
  · exact hb x (Array.mem_of_getElem? ((h.o i hd).1.trans q))
end Gn
set_option maxHeartbeats 1000000
/-! Gn2: one stretch of a generator's run, from a resume to the next yield or the end: what is wanted of its end is told of the sleeper's own code. -/
namespace Gn
open PySem PySem.Spec PyProof.Rows GenW L2
open Sem (wp)
abbrev EndW := End → Shared → Prop
def SegU (M : Model) (A : Around) (W : EndW) (c : Code) (t : Sem PySem.Fin) (fs : List Frame) (s : Shared) : Prop :=
  ∀ (Γ : PySem.Ctx) (p : Pos), Γ.code = c → Γ.Woken A → ∃ e s', Runs M Γ p t fs s e s' ∧ W e s'
section
variable {M : Model} {A : Around} {W : EndW} {c : Code} {fs : List Frame} {s : Shared}
theorem segu_wrap {α : Type} {m : Sem α} {K : α → Sem PySem.Fin} {H : Value → Sem PySem.Fin} {gd : Bool → Bool} {lv : List Value → List Value}
    (h : wpAny M (A.over c fs) m (fun a s' => SegU M A W c (K a) fs s') (fun x s' => SegU M A W c (H x) fs s') s) : SegU M A W c (m.wrap K H gd lv) fs s := by
  rintro Γ p rfl hΓ
  exact runs_wrap_of_wp K H gd lv m (h (Γ.over fs) p (hΓ.over fs)) (fun a p' s' h' => h' Γ p' rfl hΓ) (fun x p' s' h' => h' Γ p' rfl hΓ)
theorem segu_bind_wrap {α β : Type} {m : Sem α} {K : α → Sem β} {K' : β → Sem PySem.Fin} {H' : Value → Sem PySem.Fin} {gd : Bool → Bool} {lv : List Value → List Value}
    (h : wpAny M (A.over c fs) m (fun a s' => SegU M A W c ((K a).wrap K' H' gd lv) fs s') (fun x s' => SegU M A W c (H' x) fs s') s) : SegU M A W c ((m >>= K).wrap K' H' gd lv) fs s := by
  rw [Sem.bind_eq_wrap', Sem.wrap_wrap]
  exact segu_wrap h
theorem segu_at {p' : Pos} {k : Unit → Sem PySem.Fin} (h : SegU M A W c (k ()) fs s) : SegU M A W c (.at p' k) fs s :=
  segu_wrap (m := standAt p') (K := k) (H := .raise) (gd := id) (lv := id) (wpAny_standAt h)
theorem segu_point {l : List Value} {k : Unit → Sem PySem.Fin} (h : SegU M A W c (k ()) fs s) : SegU M A W c (.point l k) fs s :=
  segu_wrap (m := point) (K := k) (H := .raise) (gd := id) (lv := fun _ => l) (wpAny_point h)
theorem segu_call {c' : Code} {h : Option Value} {g : Bool} {l : List Value} {k : Result → Sem PySem.Fin} (hc : ∀ p, SegU M A W c' (M.den c') (.ret k h g l c p [] :: fs) s) : SegU M A W c (.call c' h g l k) fs s := by
  rintro Γ p rfl hΓ
  obtain ⟨e, s', hr, he⟩ := hc p (Γ.goto c') p rfl (hΓ.goto c')
  exact ⟨e, s', runs_call_seg hr, he⟩
theorem segu_leaf {k : Result → Sem PySem.Fin} {h : Option Value} {g : Bool} {l kp : List Value} {c₁ : Code} {p₁ : Pos} (r : Result) (hk : SegU M A W c₁ (k r) fs s) : SegU M A W c (leafOf r) (.ret k h g l c₁ p₁ kp :: fs) s := by
  rintro Γ p rfl hΓ
  obtain ⟨e, s', hr, he⟩ := hk (Γ.goto c₁) p₁ rfl (hΓ.goto c₁)
  exact ⟨e, s', Runs.pop r hr, he⟩
theorem segu_again {c' : Code} (hq : c'.quiet = true) (hc : SegU M A W c' (M.den c') fs s) : SegU M A W c (.pure (.again c')) fs s := by
  rintro Γ p rfl hΓ
  obtain ⟨e, s', hr, he⟩ := hc (Γ.goto c') p rfl (hΓ.goto c')
  exact ⟨e, s', Runs.head (c₁ := c') (fun _ _ x => .again hq x) hr, he⟩
theorem segu_end (r : Result) (h : W (.ret r) s) : SegU M A W c (leafOf r) [] s := by
  rintro Γ p rfl _
  exact ⟨.ret r, s, Runs.leaf r, h⟩
theorem segu_yield {v : Value} {g : Bool} {l : List Value} {k : Resume → Sem PySem.Fin} (hfs : splitAtGen fs = none) (h : ∀ p, W (.susp v g l k c p fs) s) : SegU M A W c (.yield v g l k) fs s := by
  rintro Γ p rfl _
  exact ⟨_, s, Runs.yield' fs hfs, h p⟩
end
section
variable {M : Model} {A : Around} {W : EndW} {c : Code} {fs : List Frame} {s : Shared} {env : PySem.Env} {K : Flow → Sem PySem.Fin} {H : Value → Sem PySem.Fin} {gd : Bool → Bool} {lv : List Value → List Value}
theorem segu_cons {st : Stmt} {rest : List Stmt} (h : SegU M A W c ((exec st env).wrap (fun f => match f with | .next => (execs rest env).wrap K H gd lv | f => K f) H gd lv) fs s) : SegU M A W c ((execs (st :: rest) env).wrap K H gd lv) fs s := by
  rw [execs_cons_wrap]; exact h
theorem segu_Yield {e : Expr} {ypos pos : Pos} (hfs : splitAtGen fs = none) (hgd : gd false = false) (hfg : fs.any Frame.guarded = false)
    (h : wpAny M (A.over c fs) (eval e env) (fun v s' => ∀ g l p k', (End.susp v g l k' c p fs).quiet = true → (∀ W' s'', SegU M A W' c (K .next) fs s'' → SegU M A W' c (k' (.send .none)) fs s'') → W (.susp v g l k' c p fs) s')
      (fun x s' => SegU M A W c (H x) fs s') s) (hco : env.scope.isCoroutine = false := by rfl) (hi : interactive env = false := by rfl) :
    SegU M A W c ((exec (.Expr (.Yield (some e) ypos) pos) env).wrap K H gd lv) fs s := by
  rw [exec_Expr env _ pos hi rfl]
  show SegU M A W c (.at pos fun _ => ((eval e env >>= fun v => (standAt ypos >>= fun _ => yieldOut env v)) >>= fun x => dropValue (.Yield (some e) ypos) pos x).wrap K H gd lv) fs s
  have hy : ∀ v, yieldOut env v = yieldValue v := fun v => by simp only [yieldOut, hco, Bool.false_eq_true, if_false]
  simp only [hy]
  refine segu_at ?_
  rw [Sem.bind_eq_wrap', Sem.bind_eq_wrap', Sem.wrap_wrap, Sem.wrap_wrap]
  refine segu_wrap (wpAny_mono h (fun v s' h' => ?_) fun _ _ x => x)
  refine segu_at (segu_yield hfs fun p => ?_)
  refine h' _ _ p _ ?_ fun W' s'' hx => ?_
  · simp [End.quiet, hgd, hfg]
  · exact hx
theorem segu_runOwn {c' : Code} (h : ∀ p, SegU M A W c' (M.den c') (.ret (fun r => ((match r with | .ok f => (.pure f : Sem Flow) | .error e => .raise e).onRaise (cameBack env)).wrap K H gd lv) none (gd false) (lv []) c p [] :: fs) s) :
    SegU M A W c ((runOwn c' env).wrap K H gd lv) fs s :=
  segu_call h
theorem segu_For {tg iter : Expr} {body orelse : List Stmt} {pos : Pos} (hs : ∀ x, foldedSetIterable iter env x = pure x)
    (h : wpAny M (A.over c fs) (eval iter env) (fun x s₁ => wpAny M (A.over c fs) (pyIter x) (fun it s₂ =>
      ∀ p, SegU M A W (.forLoop tg it body orelse env) (M.den (.forLoop tg it body orelse env)) (.ret (fun r => ((match r with | .ok f => (.pure f : Sem Flow) | .error e => .raise e).onRaise (cameBack env)).wrap K H gd lv) none (gd false) (lv []) c p [] :: fs) s₂)
      (fun x s' => SegU M A W c (H x) fs s') s₁) (fun x s' => SegU M A W c (H x) fs s') s) :
    SegU M A W c ((exec (.For tg iter body orelse pos) env).wrap K H gd lv) fs s := by
  rw [exec_For]
  refine segu_bind_wrap (wpAny_standAt ?_)
  refine segu_bind_wrap (wpAny_mono h (fun x s₁ h₁ => ?_) fun _ _ x => x)
  rw [hs x]
  refine segu_bind_wrap (wpAny_pure ?_)
  refine segu_bind_wrap (wpAny_standAt ?_)
  refine segu_bind_wrap (wpAny_holding (wpAny_mono h₁ (fun it s₂ h₂ => ?_) fun _ _ x => x))
  exact segu_runOwn h₂
end
section
variable {prog : Program} {w : World} {A : Around} {W : EndW} {fs : List Frame} {s : Shared} {env : PySem.Env}
/-- what a loop's code does with an exception -/
def outH (env : PySem.Env) (e : Value) : Sem PySem.Fin := (do noteFrame e env; theTreesLotGoes e : Sem Unit).wrap (fun _ => .raise e) .raise id id
def loopK (c : Code) : Flow → Sem PySem.Fin := fun f => match f with
  | .next | .cont => .pure (.again c)
  | .brk => .pure (.done .next)
  | .ret v => .pure (.done (.ret v))
theorem segu_forLoop {tg : Expr} {it : Value} {body orelse : List Stmt}
    (h : wpAny (model prog w) (A.over (.forLoop tg it body orelse env) fs) (pyNext it) (fun r s' => match r with
        | none => SegU (model prog w) A W (.forLoop tg it body orelse env) (.pure (.again (.block orelse env))) fs s'
        | some v => wpAny (model prog w) (A.over (.forLoop tg it body orelse env) fs) (letOwnedTupleGo tg it v) (fun _ s1 => wpAny (model prog w) (A.over (.forLoop tg it body orelse env) fs) (assign tg env v) (fun _ s2 =>
            SegU (model prog w) A W (.forLoop tg it body orelse env) ((execs body env).wrap (loopK (.forLoop tg it body orelse env)) (outH env) id id) fs s2)
            (fun x s' => SegU (model prog w) A W (.forLoop tg it body orelse env) (outH env x) fs s') s1) (fun x s' => SegU (model prog w) A W (.forLoop tg it body orelse env) (outH env x) fs s') s')
      (fun x s' => SegU (model prog w) A W (.forLoop tg it body orelse env) (outH env x) fs s') s) :
    SegU (model prog w) A W (.forLoop tg it body orelse env) ((model prog w).den (.forLoop tg it body orelse env)) fs s := by
  show SegU _ A W _ ((forTurn tg it body orelse env).onRaise (fun x => do noteFrame x env; theTreesLotGoes x)) fs s
  rw [Sem.onRaise_eq_wrap]
  have eH : (fun e => (do noteFrame e env; theTreesLotGoes e : Sem Unit).bind fun _ => (.raise e : Sem PySem.Fin)) = outH env := by
    funext e
    show _ = Sem.wrap _ _ _ _ _
    rw [Sem.bind_eq_wrap]
  show SegU _ A W _ (Sem.wrap .pure (fun e => (do noteFrame e env; theTreesLotGoes e : Sem Unit).bind fun _ => (.raise e : Sem PySem.Fin)) id id (forTurn tg it body orelse env)) fs s
  rw [eH]
  unfold forTurn
  refine segu_bind_wrap (wpAny_standAt ?_)
  refine segu_bind_wrap (wpAny_onRaise (wpAny_mono h (fun r s1 h1 => ?_) fun x s' h' => wpAny_standAt h'))
  cases r with
  | none => exact h1
  | some v =>
    refine segu_bind_wrap (wpAny_mono h1 (fun _ s2 h2 => ?_) fun x s' h' => h')
    refine segu_bind_wrap (wpAny_mono h2 (fun _ s3 h3 => ?_) fun x s' h' => h')
    show SegU _ A W _ (Sem.wrap _ _ _ _ (execs body env >>= fun f => _)) fs s3
    rw [Sem.bind_eq_wrap', Sem.wrap_wrap]
    have q : ∀ T, T = (execs body env).wrap (loopK (.forLoop tg it body orelse env)) (outH env) id id → SegU (model prog w) A W (.forLoop tg it body orelse env) T fs s3 := fun T e => e ▸ h3
    exact q _ (Sem.wrap_congr (execs body env) id id (fun f => by cases f <;> rfl) (fun e => rfl))
theorem segu_block {c : Code} (h : ∀ c, SegU (model prog w) A W c (leafOf (.ok .next)) fs s) : SegU (model prog w) A W c (.pure (.again (.block [] env))) fs s := segu_again rfl (h _)
/-! ### next of a generator -/
theorem wpAny_resumeU {M : Model} {A : Around} {W : EndW} {E : Value → Shared → Prop} {s : Shared} {g : Nat} {r : Resume} {l : List Value} {α : Type} {k : GenResult → Sem α} {Q : α → Shared → Prop}
    (hgo : (∃ c, s.gens[g]? = some (.fresh c) ∧ r = .send .none ∧ SegU M A W c (M.den c) [] (s.setGen g .running)) ∨ ∃ kk l c p fs cl, s.gens[g]? = some (.suspended kk l c p fs cl) ∧ SegU M A W c (kk r) fs (s.setGen g .running))
    (hW : ∀ e s₁, W e s₁ → e.quiet = true ∧ wpAny M A (k e.result) Q E (s₁.setGen g e.genState)) : wpAny M A (.resume g r l k) Q E s := by
  intro Γ p hΓ
  rw [Sem.wp_resume]
  rcases hgo with ⟨c, hg, rfl, hs⟩ | ⟨kk, l0, c0, p0, fs0, cl, hg, hs⟩
  · obtain ⟨e₁, s₁, hr, he⟩ := hs (Γ.wake c p) p rfl (hΓ.wake c p)
    obtain ⟨hq, hk⟩ := hW e₁ s₁ he
    exact ⟨_, _, by unfold Wakes; rw [hg]; exact ⟨e₁, s₁, hr, hq, rfl, rfl⟩, hk Γ p hΓ⟩
  · obtain ⟨e₁, s₁, hr, he⟩ := hs (Γ.wake c0 p) p0 rfl (hΓ.wake c0 p)
    obtain ⟨hq, hk⟩ := hW e₁ s₁ he
    exact ⟨_, _, by unfold Wakes; rw [hg]; exact ⟨e₁, s₁, hr, hq, rfl, rfl⟩, hk Γ p hΓ⟩
/-- awake or ready to be -/
def Ready (M : Model) (A : Around) (W : EndW) (gs : GenState) (s : Shared) : Prop := match gs with
  | .fresh c => SegU M A W c (M.den c) [] s
  | .suspended kk _ c _ fs _ => SegU M A W c (kk (.send .none)) fs s
  | _ => False
theorem next_genU {a : Addr} {g : Nat} {gs : GenState} {W : EndW} {Q : Option Value → Shared → Prop} {E : Value → Shared → Prop} (hh : A.handled = none)
    (hl : s.heap.NoLimit) (hroom : A.depth < recursionLimit) (hg : s.heap.IsGen a g) (hgs : s.gens[g]? = some gs)
    (hgo : Ready (model prog w) A.in1 W gs (s.setGen g .running))
    (hW : ∀ e s₁, W e s₁ → e.quiet = true ∧ match e with
      | .ret (.ok f) => (f = .ret .none ∨ f = .next) ∧ ∀ h', (∀ b o, s₁.heap.get? b = some o → h'.get? b = some o) → Q none { s₁.setGen g .finished with heap := h' }
      | .ret (.error x) => s₁.heap.IsGen a g ∧ NotStop (model prog w) x s₁.heap ∧ E x (s₁.setGen g .finished)
      | .susp v gd l k c p fs => Q (some v) (s₁.setGen g (End.susp v gd l k c p fs).genState)) :
    wpAny (model prog w) A (pyNext (.ref a)) Q E s := by
  unfold pyNext
  refine wpAny_bind (wpAny_attempt (wpAny_callSpecial?_slot (name := Str.ofString "__next__") hg.typeIs slot_gen_next
    (wpAny_call_entry slot_gen_next hg.typeIs entry_gen_next ?_ (args_gen_next _))))
  show wpAny _ A.in1 (Builtin.Generator.genWake (.ref a) (.send .none)) _ _ s
  unfold Builtin.Generator.genWake
  refine wpAny_bind (wpAny_holding (wpAny_genNumber hg (wpAny_bind (wpAny_genState hgs ?_))))
  cases gs with
  | running => exact hgo.elim
  | finished => exact hgo.elim
  | _ =>
    refine wpAny_bind (wpAny_roomToWake hl hroom ?_)
    show wpAny _ A.in1 (.resume g (.send .none) [] _) _ _ s
    refine wpAny_resumeU (W := W) ?_ fun e s₁ he => ?_
    · first
        | exact .inl ⟨_, hgs, rfl, hgo⟩
        | exact .inr ⟨_, _, _, _, _, _, hgs, hgo⟩
    · obtain ⟨hq, hk⟩ := hW e s₁ he
      refine ⟨hq, ?_⟩
      cases e with
      | ret r =>
        cases r with
        | ok f =>
          obtain ⟨hf, hk⟩ := hk
          have hres : (End.ret (.ok f)).result = .returned .none := by
            rcases hf with rfl | rfl <;> rfl
          rw [hres]
          show wpAny _ A.in1 (newExc (.type "StopIteration") [] >>= _) _ _ _
          refine wpAny_bind ?_
          simp only [newExc, newTuple]
          refine wpAny_bind (wpAny_newObj_type ?_ (by size_fits))
          refine wpAny_bind (m := firstArgMember _ _) (wpAny_of_eq (a := Value.none) (by first | rfl | (simp only [firstArgMember]; rfl)) ?_)
          refine wpAny_newObj_type ?_ (by size_fits)
          simp only [raiseNew]
          refine wpAny_bind (wpAny_bind (wpAny_handled ?_))
          first | rw [show A.in1.handled = none from hh] | rw [hh]
          refine wpAny_throw ?_
          refine wpAny_bind (wpAny_isInstance (T := "StopIteration") (b := true) ⟨_, Heap.get?_push_size _ rfl, rfl⟩ isSubtype_stop ?_)
          exact wpAny_pure (hk _ fun b o hb => Heap.get?_push_of_some _ (Heap.get?_push_of_some _ hb))
        | error x =>
          obtain ⟨hg1, hns, hq⟩ := hk
          obtain ⟨o, nm, qn, ho, hc, hd, hsl⟩ := hg1
          show wpAny _ A.in1 (Builtin.Generator.genLeft (.ref a) x) _ _ _
          unfold Builtin.Generator.genLeft Builtin.Generator.madeByALambda
          refine wpAny_bind (wpAny_bind (wpAny_load (o := o) ho (wpAny_pure ?_)))
          refine wpAny_bind (hns _ _ _ _ rfl ?_)
          rw [Bool.and_false, if_neg Bool.false_ne_true]
          unfold Builtin.Generator.genEscaped
          first
            | refine wpAny_bind (hns _ _ _ _ rfl ?_)
            | refine wpAny_bind (wpAny_pure (wpAny_bind (hns _ _ _ _ rfl ?_)))
          rw [if_pos (show (!false) = true from rfl)]
          first
            | refine wpAny_throw ?_
            | refine wpAny_bind (wpAny_throw ?_)
          refine wpAny_bind (hns _ _ _ _ rfl ?_)
          rw [if_neg Bool.false_ne_true]
          exact wpAny_throw hq
      | susp v gd l k c p fs => exact wpAny_pure ⟨v, rfl, wpAny_pure hk⟩
end
end Gn
set_option maxHeartbeats 2000000
/-! Gn3: a generator def's body as a computation that hands out values; it sleeps between them, whatever its consumer does. -/
namespace Gn
open PySem PySem.Spec PyProof.Rows GenW L2 Dn
/-! ### computations -/
inductive Gt where
  | fin (st : List MO) | exc (e : PV) (st : List MO) | stk | yld (v : PV) (st : List MO) (k : List MO → Gt)
abbrev GM := (Fl → S → Gt) → S → Gt
def clean (env : Dn.Env) : Dn.Env := env.map fun x => match x with | some (.own _) => none | x => x
def plainG (m : M Fl) : GM := fun κ s => match m s with
  | .ok .nx s' => κ .nx s'
  | .ok .bk s' => κ .bk s'
  | .ok .ct s' => κ .ct s'
  | .ok (.rt _) _ => .stk
  | .ok (.ro _) _ => .stk
  | .exc e s' => .exc e s'.sto
  | .stk => .stk
def yieldG (ce : M PV) : GM := fun κ s => match ce s with
  | .ok v s' => .yld v s'.sto fun st => κ .nx ⟨clean s'.env, st⟩
  | .exc e s' => .exc e s'.sto
  | .stk => .stk
def seqG (a b : GM) : GM := fun κ s => a (fun fl s' => match fl with | .nx => b κ s' | fl => κ fl s') s
def nilG : GM := fun κ s => κ .nx s
abbrev Tgt := PV → S → Option S
def tgN (i : Nat) : Tgt := fun d s => some { s with env := s.env.set i (some (.val d)) }
def tgU (is : List Nat) : Tgt := fun d s => match d with
  | .tup ds => if ds.length = is.length then (match setAll is ds s with | .ok .nx s1 => some s1 | _ => none) else none
  | _ => none
def forG (tg : Tgt) (body : GM) (κ : Fl → S → Gt) : List PV → S → Gt
  | [], s => κ .nx s
  | x :: r, s => match tg x s with
    | none => .stk
    | some s1 => body (fun fl s' => match fl with | .nx => forG tg body κ r s' | .ct => forG tg body κ r s' | .bk => κ .nx s' | _ => .stk) s1
def loopG (cs : M (List PV)) (tg : Tgt) (body : GM) : GM := fun κ s => match cs s with
  | .ok xs s' => forG tg body κ xs s'
  | .exc e s' => .exc e s'.sto
  | .stk => .stk
/-! ### the frame's context, by the resume -/
structure Gs where
  P : Program
  w : World
  K : PySem.W.Frag
  mg : Str → Option Value
  base : Heap
  N : List Str
  qual : Str
  scope : Scope
  f : Addr
  cd : Value
  A : Around
  outer : List PySem.Env
  n0 : Nat
  pn : List (Addr × Obj)
abbrev Gs.env (Z : Gs) : PySem.Env := envOfC Z.qual Z.scope Z.n0 Z.f Z.cd
/-- the state at a resume, cut off below the frame; the heap and the view there; what is to come -/
structure Ix where
  sb : Shared
  Hb : Hp
  Wb : Vw
  τ : Gt
def exT (K : PySem.W.Frag) (Hb : Hp) (Wb : Vw) (e : PV) (st' : List MO) : XK := fun cls d H' => ∃ W', Wb.Le W' ∧ Okk K W' st' H' ∧ Grow Wb W' Hb H' ∧ ERep K W' cls d e
def exE (K : PySem.W.Frag) (i : Ix) : XK := fun cls d H' => ∃ e st', i.τ = .exc e st' ∧ exT K i.Hb i.Wb e st' cls d H'
abbrev ctxI (K : PySem.W.Frag) (i : Ix) : Dn.Ctx := ⟨i.Hb, i.Wb.F, i.Wb.hs, yE (exE K i)⟩
abbrev gxi (Z : Gs) (i : Ix) : Cx where
  prog := Z.P
  w := Z.w
  K := Z.K
  mg := Z.mg
  base := Z.base
  A := Z.A.deeper Z.env
  N := Z.N
  s_0 := i.sb
  H_0 := i.Hb
  env := Z.env
  outer := Z.outer
  stack := Z.env :: Z.outer
  ex := []
  calm := true
  fn := fun _ => true
  pn := Z.pn
  xe := fun e s' => wpAny (model Z.P Z.w) (Z.A.deeper Z.env) (leaving Z.env e) (fun _ s'' => CX Z.P Z.w Z.outer i.Hb i.sb (exE Z.K i) e s'' ∧ ∀ p ∈ Z.pn, s''.heap.get? p.1 = some p.2) (fun _ _ => False) s'
theorem takes_gxi {Z : Gs} {i : Ix} : Takes (gxi Z i) (yE (exE Z.K i)) := fun u s' x => XE.leaveG (X := gxi Z i) (W := yE (exE Z.K i)) (E := exE Z.K i) rfl rfl rfl (fun _ _ _ _ h => h) x
theorem owns_gxi {Z : Gs} {i : Ix} : PassesOwn (model Z.P Z.w) (gxi Z i).A (gxi Z i).env (gxi Z i).xe :=
  passes_of (X := gxi Z i) (K := fun e s'' => CX Z.P Z.w Z.outer i.Hb i.sb (exE Z.K i) e s'' ∧ ∀ p ∈ Z.pn, s''.heap.get? p.1 = some p.2) (E₁ := fun _ _ => False) rfl
/-- what holds where the frame rests -/
structure Land (Z : Gs) (sb : Shared) (Hb H' : Hp) (s : Shared) : Prop where
  os : s.os = sb.os
  bare : AllBare s.gens
  un : Un (frs Z.outer) [] Hb H' sb.heap s.heap
  hok : HOk Z.P Z.w H' s.heap
  pn : ∀ p ∈ Z.pn, s.heap.get? p.1 = some p.2 ∧ H' p.1 = none
/-- what the consumer owes at a resume -/
structure Res (Z : Gs) (pl : List (Addr × Obj)) (s2 sb : Shared) (H2 : Hp) : Prop where
  os : s2.os = sb.os
  bs : ∀ b o, Z.base.get? b = some o → sb.heap.get? b = some o ∧ H2 b = none
  bsz : Z.base.objs.size ≤ sb.heap.objs.size
  funs : sb.heap.FunFrames Z.base Z.outer
  frf : ∀ b ∈ frs Z.outer, H2 b = none
  size : sb.heap.objs.size = Z.n0
  sub : ∀ b o, sb.heap.get? b = some o → s2.heap.get? b = some o
  hok : HOk Z.P Z.w H2 s2.heap
  bare : AllBare s2.gens
  pins : ∀ p ∈ pl, s2.heap.get? p.1 = some p.2 ∧ H2 p.1 = none
/-- objects that stay while the generator sleeps -/
def Kept (Z : Gs) (pl : List (Addr × Obj)) (H' : Hp) (s : Shared) : Prop := ∀ p ∈ pl, s.heap.get? p.1 = some p.2 ∧ H' p.1 = none ∧ Z.n0 ≤ p.1 ∧ ∀ v, p.2.data ≠ .cell v
/-- what is wanted of a stretch -/
def Wish (Z : Gs) : Gt → Shared → Hp → Vw → EndW
  | .fin st', sb, Hb, Wb => fun e s => ∃ f, e = .ret (.ok f) ∧ (f = .ret .none ∨ f = .next) ∧ ∃ W' H', Wb.Le W' ∧ Okk Z.K W' st' H' ∧ Grow Wb W' Hb H' ∧ Land Z sb Hb H' s
  | .exc e st', sb, Hb, Wb => fun en s => ∃ x, en = .ret (.error x) ∧ CX Z.P Z.w Z.outer Hb sb (exT Z.K Hb Wb e st') x s ∧ ∀ p ∈ Z.pn, s.heap.get? p.1 = some p.2
  | .stk, _, _, _ => fun _ _ => False
  | .yld v st' k, sb, Hb, Wb => fun en s => ∃ x g l kk c p fs, en = .susp x g l kk c p fs ∧ en.quiet = true ∧ ∃ W' H' xv pl, RelV xv x ∧ Rep Z.K W' xv v ∧ Wb.Le W' ∧ Okk Z.K W' st' H' ∧ Grow Wb W' Hb H' ∧ Land Z sb Hb H' s ∧ Kept Z pl H' s ∧ (∀ q ∈ Z.pn, q ∈ pl) ∧ Z.n0 ≤ s.heap.objs.size ∧
      ∀ s2 sb2 H2 W2 st2, W'.Le W2 → Okk Z.K W2 st2 H2 → Res Z pl s2 sb2 H2 → k st2 ≠ .stk → SegU (model Z.P Z.w) Z.A (Wish Z (k st2) sb2 H2 W2) c (kk (.send .none)) fs s2
abbrev WishI (Z : Gs) (i : Ix) : EndW := Wish Z i.τ i.sb i.Hb i.Wb
/-! ### from one resume to the next -/
/-- no name is a cell -/
structure NoCell (Z : Gs) : Prop where
  ce : ∀ x c, Z.env.cells.lookup x = some c → False
  ki : ∀ x, Z.env.kindOf x ≠ some .cell ∧ Z.env.kindOf x ≠ some .free
section
variable {Z : Gs} {i i2 : Ix} {ip : List (Addr × Obj)} {σ : L2.St} {H : Hp} {s s2 : Shared} {W W' : Vw} {sg : S} {o : Obj}
theorem reInv (nc : NoCell Z) (I : Inv (gxi Z i) ip σ H s) (ho : s.heap.get? Z.n0 = some o) (R : Res Z ((Z.n0, o) :: (Z.pn ++ ip)) s2 i2.sb i2.Hb) : Inv (gxi Z i2) ip σ i2.Hb s2 := by
  have pin0 := R.pins _ List.mem_cons_self
  refine ⟨⟨I.ok.mod, I.ok.kind, I.ok.glob, I.ok.blt, Nat.le_of_eq R.size, I.ok.inj, I.ok.has, fun x c _ h => (nc.ce x c h).elim, I.ok.hd, I.ok.frames, I.ok.stk, I.ok.exf, R.bs, R.bsz, fun b o e z => (nomatch z), fun b z => (nomatch z), R.funs, R.frf⟩,
    R.os, R.bare, Un.kept R.sub, ?_, fun x c h => (nc.ce x c h).elim, pin0.2, fun x c h => (nc.ce x c h).elim, fun p hp => ?_, R.hok, I.len⟩
  · obtain ⟨m, ⟨o', es, ep, ho', r⟩, hl⟩ := I.loc
    have ho' : s.heap.get? Z.n0 = some o' := ho'
    rw [ho] at ho'
    cases ho'
    refine ⟨m, ⟨o, es, ep, pin0.1, r⟩, fun k x v e1 e2 e3 => ?_⟩
    obtain ⟨u, ru, lk⟩ := hl k x v e1 e2 e3
    refine ⟨u, ru, ?_⟩
    rcases lk with lk | ⟨kd, _⟩
    · exact .inl lk
    · rcases kd with z | z
      · exact absurd z (nc.ki x).1
      · exact absurd z (nc.ki x).2
  · obtain ⟨_, _, h3, h4, h5⟩ := I.pin p hp
    obtain ⟨h1, h2⟩ := R.pins p (List.mem_cons_of_mem _ hp)
    exact ⟨h1, h2, h3, h4, h5⟩
theorem clean_get {env : Dn.Env} {j : Nat} {x : SV} (h : (clean env)[j]? = some (some x)) : ∃ d, x = .val d ∧ env[j]? = some (some (.val d)) := by
  unfold clean at h
  rw [List.getElem?_map] at h
  obtain ⟨y, hy, e⟩ := Option.map_eq_some_iff.mp h
  cases y with
  | none => cases e
  | some y =>
    cases y with
    | val d => cases e; exact ⟨d, rfl, hy⟩
    | own => cases e
theorem reAt {K : PySem.W.Frag} {C : Dn.Ctx} {st2 : List MO} {H2 : Hp} {W2 : Vw} {Y : WX} (a : At K C W sg σ H) (l : W.Le W2) (ok2 : Okk K W2 st2 H2) : At K ⟨H2, W2.F, W2.hs, Y⟩ W2 ⟨clean sg.env, st2⟩ σ H2 := by
  refine ⟨ok2, fun a o e _ => e, fun n a e => e, fun a _ => ⟨rfl, fun z => z⟩, ?_, fun j d e => ?_, fun j xs e => ?_, fun j k xs ys a e => ?_⟩
  · show _ = (clean sg.env).length
    unfold clean
    rw [List.length_map]; exact a.len
  · obtain ⟨d', q, e⟩ := clean_get e
    cases q
    obtain ⟨v, e1, r⟩ := a.val j d e
    exact ⟨v, e1, r.mono l⟩
  · obtain ⟨d', q, e⟩ := clean_get e
    cases q
  · obtain ⟨d', q, e⟩ := clean_get e
    cases q
theorem grow_at (a : At Z.K (ctxI Z.K i) W sg σ H) : Grow i.Wb W i.Hb H := ⟨fun b o e hb => a.keep b o e hb, fun b hb => a.gro b hb⟩
theorem land_inv (I : Inv (gxi Z i) ip σ H s) : Land Z i.sb i.Hb H s := ⟨I.os, I.bare, I.base, I.hok, fun p hp => let h := I.pin p (List.mem_append_left _ hp); ⟨h.1, h.2.1⟩⟩
/-! ### statements -/
def flM : Fl → Flow → Prop
  | .nx, .next => True
  | .bk, .brk => True
  | .ct, .cont => True
  | _, _ => False
structure GCd (Z : Gs) (c : Code) (fs : List Frame) (gd : Bool → Bool) : Prop where
  over : Z.A.over c fs = Z.A.deeper Z.env
  split : splitAtGen fs = none
  guard : fs.any Frame.guarded = false
  gd : gd false = false
structure GKd (Z : Gs) (ip : List (Addr × Obj)) (c : Code) (fs : List Frame) (K : Flow → Sem PySem.Fin) (J : Value → Sem PySem.Fin) (κ : Fl → S → Gt) (W0 : Vw) : Prop where
  ok : ∀ (i : Ix) (fl : Fl) (f : Flow) (s : Shared) (σ : L2.St) (H : Hp) (W : Vw) (sg : S), flM fl f → W0.Le W → i.Wb.Le W → Inv (gxi Z i) ip σ H s → At Z.K (ctxI Z.K i) W sg σ H → κ fl sg = i.τ → i.τ ≠ .stk → i.sb.heap.objs.size = Z.n0 →
    SegU (model Z.P Z.w) Z.A (WishI Z i) c (K f) fs s
  exc : ∀ (i : Ix) (e : Value) (s : Shared), (gxi Z i).xe e s → SegU (model Z.P Z.w) Z.A (WishI Z i) c (J e) fs s
def GRun (Z : Gs) (t : (Flow → Sem PySem.Fin) → (Value → Sem PySem.Fin) → (Bool → Bool) → (List Value → List Value) → Sem PySem.Fin) (m : GM) : Prop :=
  ∀ (i : Ix) (ip : List (Addr × Obj)) (c : Code) (fs : List Frame) (K : Flow → Sem PySem.Fin) (J : Value → Sem PySem.Fin) (gd : Bool → Bool) (lv : List Value → List Value) (κ : Fl → S → Gt) (W0 : Vw) (s : Shared) (σ : L2.St) (H : Hp) (W : Vw) (sg : S),
    GCd Z c fs gd → (∀ p ∈ Z.pn ++ ip, Z.n0 ≤ p.1) → GKd Z ip c fs K J κ W0 → W0.Le W → i.Wb.Le W → Inv (gxi Z i) ip σ H s → At Z.K (ctxI Z.K i) W sg σ H → m κ sg = i.τ → i.τ ≠ .stk → i.sb.heap.objs.size = Z.n0 → SegU (model Z.P Z.w) Z.A (WishI Z i) c (t K J gd lv) fs s
def GSt (Z : Gs) (st : Stmt) (m : GM) : Prop := GRun Z (fun K J gd lv => (exec st Z.env).wrap K J gd lv) m
def GSts (Z : Gs) (st : List Stmt) (m : GM) : Prop := GRun Z (fun K J gd lv => (execs st Z.env).wrap K J gd lv) m
theorem gt_nil : GSts Z [] nilG := fun i ip c fs K J gd lv κ W0 s σ H W sg g hip k l0 lb I a e ns n0 => k.ok i .nx .next s σ H W sg trivial l0 lb I a e ns n0
theorem gt_cons {st : Stmt} {rest : List Stmt} {a b : GM} (ha : GSt Z st a) (hb : GSts Z rest b) : GSts Z (st :: rest) (seqG a b) := fun i ip c fs K J gd lv κ W0 s σ H W sg g hip k l0 lb I at' e ns n0 => by
  refine segu_cons ?_
  refine ha i ip c fs _ J gd lv (fun fl s' => match fl with | .nx => b κ s' | fl => κ fl s') W0 s σ H W sg g hip ⟨fun i' fl f s' σ' H' W' sg' hf l' lb' I' a' e' ns' n0' => ?_, k.exc⟩ l0 lb I at' e ns n0
  cases fl with
  | nx =>
    cases f with
    | next => exact hb i' ip c fs K J gd lv κ W0 s' σ' H' W' sg' g hip k l' lb' I' a' e' ns' n0'
    | _ => exact hf.elim
  | bk =>
    cases f with
    | brk => exact k.ok i' .bk .brk s' σ' H' W' sg' hf l' lb' I' a' e' ns' n0'
    | _ => exact hf.elim
  | ct =>
    cases f with
    | cont => exact k.ok i' .ct .cont s' σ' H' W' sg' hf l' lb' I' a' e' ns' n0'
    | _ => exact hf.elim
  | rt d => exact hf.elim
  | ro d => exact hf.elim
/-- a statement without a yield -/
theorem gt_plain {st : Stmt} {m : M Fl} (h : ∀ i, PS (gxi Z i) st (denS Z.K (yE (exE Z.K i)) m)) : GSt Z st (plainG m) := fun i ip c fs K J gd lv κ W0 s σ H W sg g hip k l0 lb I a e ns n0 => by
  refine segu_wrap ?_
  rw [g.over]
  refine wpAny_mono ((h i).run ip s σ H { nx := fun σ' H' => ∃ W' sg', W.Le W' ∧ At Z.K (ctxI Z.K i) W' sg' σ' H' ∧ κ .nx sg' = i.τ, rt := fun _ _ => False, bk := fun σ' H' => ∃ W' sg', W.Le W' ∧ At Z.K (ctxI Z.K i) W' sg' σ' H' ∧ κ .bk sg' = i.τ, ct := fun σ' H' => ∃ W' sg', W.Le W' ∧ At Z.K (ctxI Z.K i) W' sg' σ' H' ∧ κ .ct sg' = i.τ } I ⟨ctxI Z.K i, W, sg, a, ?_⟩) (fun f s' hs => ?_) fun x s' hx => k.exc i x s' hx
  · unfold plainG at e
    cases q : m sg with
    | stk => simp only [q] at e; exact absurd e.symm ns
    | exc x s' =>
      simp only [q] at e
      exact fun W' σ' H' cls d l a' r => ⟨x, s'.sto, e.symm, W', lb.trans l, a'.ok, grow_at a', r⟩
    | ok fl s' =>
      cases fl with
      | nx => simp only [q] at e; exact fun W' σ' H' l a' => ⟨W', s', l, a', e⟩
      | bk => simp only [q] at e; exact fun W' σ' H' l a' => ⟨W', s', l, a', e⟩
      | ct => simp only [q] at e; exact fun W' σ' H' l a' => ⟨W', s', l, a', e⟩
      | rt d => simp only [q] at e; exact absurd e.symm ns
      | ro d => simp only [q] at e; exact absurd e.symm ns
  · cases f with
    | next =>
      obtain ⟨σ', H', I', W', sg', l, a', e'⟩ := hs
      exact k.ok i .nx .next s' σ' H' W' sg' trivial (l0.trans l) (lb.trans l) I' a' e' ns n0
    | brk =>
      obtain ⟨σ', H', I', W', sg', l, a', e'⟩ := hs
      exact k.ok i .bk .brk s' σ' H' W' sg' trivial (l0.trans l) (lb.trans l) I' a' e' ns n0
    | cont =>
      obtain ⟨σ', H', I', W', sg', l, a', e'⟩ := hs
      exact k.ok i .ct .cont s' σ' H' W' sg' trivial (l0.trans l) (lb.trans l) I' a' e' ns n0
    | ret u =>
      obtain ⟨_, _, _, _, _, q⟩ := hs
      exact q.elim
/-- yield -/
theorem gt_yield {e : Expr} {ce : M PV} {yp pos : Pos} (nc : NoCell Z) (he : ∀ i, PE (gxi Z i) e (den Z.K (yE (exE Z.K i)) ce)) (hco : Z.env.scope.isCoroutine = false := by rfl) (hi : interactive Z.env = false := by rfl) : GSt Z (.Expr (.Yield (some e) yp) pos) (yieldG ce) :=
  fun i ip c fs K J gd lv κ W0 s σ H W sg g hip k l0 lb I a eq ns n0 => by
  refine segu_Yield g.split g.gd g.guard ?_ hco hi
  rw [g.over]
  refine wpAny_mono ((he i).run ip s σ H (fun v H1 => ∃ d s1 W1, ce sg = .ok d s1 ∧ W.Le W1 ∧ At Z.K (ctxI Z.K i) W1 s1 σ H1 ∧ Rep Z.K W1 v d) I ⟨ctxI Z.K i, W, sg, a, ?_⟩) (fun u s' hs => ?_) fun x s' hx => k.exc i x s' hx
  · unfold yieldG at eq
    cases q : ce sg with
    | stk => simp only [q] at eq; exact absurd eq.symm ns
    | exc x s' =>
      simp only [q] at eq
      exact fun W' σ' H' cls d l a' r => ⟨x, s'.sto, eq.symm, W', lb.trans l, a'.ok, grow_at a', r⟩
    | ok d s1 => exact fun W1 H1 l a' v r => ⟨d, s1, W1, rfl, l, a', r⟩
  · obtain ⟨v, H1, I1, rv, d, s1, W1, ec, l1, a1, r1⟩ := hs
    intro g' l' p k' hq hk
    have eτ : i.τ = .yld d s1.sto fun st => κ .nx ⟨clean s1.env, st⟩ := by
      rw [← eq]
      unfold yieldG
      simp only [ec]
    show Wish Z i.τ i.sb i.Hb i.Wb _ _
    rw [eτ]
    obtain ⟨m, ⟨o, es, ep, ho, rr⟩, _⟩ := id I1.loc
    have ho : s'.heap.get? Z.n0 = some o := ho
    unfold Wish
    refine ⟨u, g', l', k', c, p, fs, rfl, hq, W1, H1, v, (Z.n0, o) :: (Z.pn ++ ip), rv, r1, lb.trans l1, a1.ok, grow_at a1, land_inv I1, fun q hq => ?_, fun q hq => List.mem_cons_of_mem _ (List.mem_append_left _ hq), Nat.le_of_lt (Heap.lt_size ho), fun s2 sb2 H2 W2 st2 l2 ok2 R nk => ?_⟩
    · rcases List.mem_cons.mp hq with z | z
      · subst z
        refine ⟨ho, I1.free, Nat.le_refl _, fun v e => ?_⟩
        rw [e] at rr
        cases rr.1
      · obtain ⟨h1, h2, _, _, h5⟩ := I1.pin q z
        exact ⟨h1, h2, hip q z, h5⟩
    · refine hk _ s2 ?_
      exact k.ok ⟨sb2, H2, W2, κ .nx ⟨clean s1.env, st2⟩⟩ .nx .next s2 σ H2 W2 ⟨clean s1.env, st2⟩ trivial ((l0.trans l1).trans l2) (Vw.Le.refl _) (reInv nc I1 ho R) (reAt a1 l2 ok2) rfl nk R.size
end
end Gn
set_option maxHeartbeats 2000000
/-! Gn4: if, while, for in a generator def's body. -/
namespace Gn
open PySem PySem.Spec PyProof.Rows GenW L2 Dn
section
variable {Z : Gs}
/-! ### loops -/
theorem gc_loopd {c c' : Code} {fs : List Frame} {gd : Bool → Bool} {k : Result → Sem PySem.Fin} {l kp : List Value} {p : Pos} (g : GCd Z c fs gd) (hw : c'.weight = 0) (hu : c'.cUnits = 0) : GCd Z c' (.ret k none (gd false) l c p kp :: fs) id where
  over := (over_loop hw hu).trans g.over
  split := by
    show (splitAtGen fs).map _ = none
    rw [g.split]; rfl
  guard := by
    show (gd false || fs.any Frame.guarded) = false
    rw [g.gd, g.guard]; rfl
  gd := rfl
theorem segu_came {i : Ix} {ip : List (Addr × Obj)} {c : Code} {fs : List Frame} {K : Flow → Sem PySem.Fin} {J : Value → Sem PySem.Fin} {gd : Bool → Bool} {lv : List Value → List Value} {κ : Fl → S → Gt} {W0 : Vw} {s : Shared} {e : Value}
    (g : GCd Z c fs gd) (k : GKd Z ip c fs K J κ W0) (h : cameBackBy (model Z.P Z.w) (gxi Z i).A Z.env (gxi Z i).xe e s) :
    SegU (model Z.P Z.w) Z.A (WishI Z i) c (((Sem.raise e : Sem Flow).onRaise (cameBack Z.env)).wrap K J gd lv) fs s := by
  show SegU _ _ _ _ (((cameBack Z.env e).bind fun _ => (Sem.raise e : Sem Flow)).wrap K J gd lv) _ _
  rw [Sem.bind_eq_wrap, Sem.wrap_wrap]
  refine segu_wrap ?_
  rw [g.over]
  exact wpAny_mono h (fun _ s' hx => k.exc i e s' hx) fun x s' hx => k.exc i x s' hx
/-- an exception leaves a loop's code -/
theorem segu_out {i : Ix} {ip : List (Addr × Obj)} {c c' : Code} {fs : List Frame} {K : Flow → Sem PySem.Fin} {J : Value → Sem PySem.Fin} {gd : Bool → Bool} {lv : List Value → List Value} {κ : Fl → S → Gt} {W0 : Vw} {s : Shared} {x : Value} {l : List Value} {p : Pos}
    (g : GCd Z c fs gd) (k : GKd Z ip c fs K J κ W0) (hw : c'.weight = 0) (hu : c'.cUnits = 0) (hx : (gxi Z i).xe x s) :
    SegU (model Z.P Z.w) Z.A (WishI Z i) c' (outH Z.env x) (.ret (fun r => ((match r with | .ok f => (.pure f : Sem Flow) | .error e => .raise e).onRaise (cameBack Z.env)).wrap K J gd lv) none (gd false) l c p [] :: fs) s := by
  unfold outH
  refine segu_wrap ?_
  rw [(gc_loopd g hw hu).over]
  refine wpAny_bind (wpAny_mono (owns_gxi x s hx) (fun _ s'' hcb => wpAny_theTreesLotGoes ?_) fun y s'' hcb => ?_)
  · exact segu_leaf (.error x) (segu_came g k hcb)
  · exact segu_leaf (.error y) (segu_came g k hcb)
/-- a target, as it stores -/
def TgOk (K : PySem.W.Frag) (g : TG) (tg : Tgt) : Prop := ∀ {C : Dn.Ctx} {W : Vw} {s s' : S} {σ : L2.St} {H : Hp} {v : V} {d : PV} {Q : L2.St → Hp → Prop}, At K C W s σ H → Rep K W v d → tg d s = some s' → (∀ σ', At K C W s' σ' H → Q σ' H) → g v σ H Q
theorem tgok_n {K : PySem.W.Frag} (i : Nat) : TgOk K (gName i) (tgN i) := fun a r e q => by
  cases e
  exact q _ (a.set r i)
theorem tgok_u {K : PySem.W.Frag} (is : List Nat) : TgOk K (gTup K is.length (gNs is)) (tgU is) := fun {C W s s' σ H v d Q} a r e q => by
  unfold tgU at e
  cases d with
  | tup ds =>
    dsimp only at e
    split at e
    · rename_i hl
      cases r with
      | tup hq rs =>
        refine ⟨_, _, rfl, same_t a.ok.sub hq, by rw [rs.length]; exact hl, den_setAllQ _ _ a rs ?_⟩
        split at e
        · rename_i s1 e1
          cases e
          first
            | exact fun σ' a' => q σ' a'
            | (rw [e1]; exact fun σ' a' => q σ' a')
        · cases e
    · cases e
  | _ => cases e
theorem gt_for {tg : Tgt} {te iter : Expr} {body : List Stmt} {pos : Pos} {wi : Ix → TI} {gt : TG} {cs : M (List PV)} {mb : GM} (hi : ∀ i, PI (gxi Z i) te iter (wi i)) (hw : ∀ i, SrcOk (yE (exE Z.K i)) (wi i) Z.K cs) (hg : ∀ i, PG (gxi Z i) te gt) (ht : TgOk Z.K gt tg) (hb : GSts Z body mb)
    (hs : ∀ x, foldedSetIterable iter Z.env x = pure x := by intro _; rfl) : GSt Z (.For te iter body [] pos) (loopG cs tg mb) :=
  fun i ip c fs K J gd lv κ W0 s σ H W sg g hip k l0 lb I a eq ns n0 => by
  refine segu_For hs ?_
  rw [g.over]
  refine wpAny_mono ((hi i).run ip s σ H (fun Jt H' => ∃ xs s1 W1, cs sg = .ok xs s1 ∧ W.Le W1 ∧ At Z.K (ctxI Z.K i) W1 s1 σ H' ∧ Walks Z.K Jt W1 xs) I (hw i σ H _ ⟨ctxI Z.K i, W, sg, a, ?_⟩)) (fun v s1 h1 => ?_) fun x s' hx => k.exc i x s' hx
  · unfold loopG at eq
    cases q : cs sg with
    | stk => simp only [q] at eq; exact absurd eq.symm ns
    | exc x s' =>
      simp only [q] at eq
      exact fun W' σ' H' cls d l a' r => ⟨x, s'.sto, eq.symm, W', lb.trans l, a'.ok, grow_at a', r⟩
    | ok xs s1 => exact fun W1 H1 l a' Jt wk => ⟨xs, s1, W1, rfl, l, a', wk⟩
  refine wpAny_mono h1 (fun itv s2 h2 => ?_) fun x s' hx => k.exc i x s' hx
  obtain ⟨it, fp, tn, Jt, H2, rfl, I2, T, st2, f2, xs, sg1, W1, ec, l1, a1, wk⟩ := h2
  unfold loopG at eq
  simp only [ec] at eq
  intro p
  -- the iterator's objects
  have f0 : ∀ b ∈ fp, Z.n0 ≤ b := fun b hb => by
    rcases (f2 b hb).2.2.2.1 with z | z
    · cases z
    · have z : i.sb.heap.objs.size ≤ b := z
      omega
  have stat : ∀ {i' : Ix} {H' : Hp}, i'.sb.heap.objs.size = Z.n0 → (∀ b ∈ fp, H' b = none) → ∀ b ∈ fp, FpOk (gxi Z i') ip H' b := fun {i' H'} e hn b hb => by
    obtain ⟨_, q1, q2, _, q4, q5⟩ := f2 b hb
    exact ⟨hn b hb, q1, q2, .inr (by show i'.sb.heap.objs.size ≤ b; rw [e]; exact f0 b hb), q4, q5⟩
  have loop : ∀ (ys : List PV) (j : Nat) (i : Ix) (s : Shared) (σ : L2.St) (H : Hp) (W : Vw) (sg : S), j + ys.length = xs.length → xs.drop j = ys → W1.Le W → W0.Le W → i.Wb.Le W → Inv (gxi Z i) ip σ H s → tn j s.heap → (∀ b ∈ fp, H b = none) → At Z.K (ctxI Z.K i) W sg σ H → forG tg mb κ ys sg = i.τ → i.τ ≠ .stk → i.sb.heap.objs.size = Z.n0 →
      SegU (model Z.P Z.w) Z.A (WishI Z i) (.forLoop te (.ref it) body [] Z.env) ((model Z.P Z.w).den (.forLoop te (.ref it) body [] Z.env)) (.ret (fun r => ((match r with | .ok f => (.pure f : Sem Flow) | .error e => .raise e).onRaise (cameBack Z.env)).wrap K J gd lv) none (gd false) (lv []) c p [] :: fs) s := by
    intro ys
    induction ys with
    | nil =>
      intro j i s σ H W sg hj hd l1 l0 lb I st fr a eq ns n0
      refine segu_forLoop ?_
      rw [(gc_loopd g rfl rfl).over]
      refine wpAny_mono (T.done (gxi Z i) rfl rfl rfl rfl j ip s σ H (gxi Z i).xe I (stat n0 fr) st (wk.stop l1 a (by simp at hj; omega))) (fun r s' hr => ?_) fun x s' hx => segu_out g k rfl rfl hx
      obtain ⟨rfl, I'⟩ := hr
      exact segu_block fun c' => segu_leaf (.ok .next) (k.ok i .nx .next s' σ H W sg trivial l0 lb I' a eq ns n0)
    | cons y ys ih =>
      intro j i s σ H W sg hj hd l1 l0 lb I st fr a eq ns n0
      have hlt : j < xs.length := by simp at hj; omega
      have hy : xs[j]? = some y := by
        have := congrArg List.head? hd
        rw [List.head?_drop] at this
        exact this
      have hd' : xs.drop (j + 1) = ys := by
        rw [← List.tail_drop, hd]; rfl
      refine segu_forLoop ?_
      rw [(gc_loopd g rfl rfl).over]
      refine wpAny_mono (T.item (gxi Z i) rfl rfl rfl rfl j ip s σ H (gxi Z i).xe I (stat n0 fr) st (wk.go l1 a hlt)) (fun r s' hr => ?_) fun x s' hx => segu_out g k rfl rfl hx
      obtain ⟨u, rfl, h4⟩ := hr
      refine wpAny_mono h4 (fun _ s5 h5 => ?_) fun x s' hx => segu_out g k rfl rfl hx
      obtain ⟨x, H5, I5, r5, y5, st5, fr5⟩ := h5
      obtain ⟨d, W5, ed, l5, a5, rd⟩ := wk.yld l1 a hlt y5
      rw [hy] at ed
      cases ed
      unfold forG at eq
      cases et : tg y sg with
      | none => simp only [et] at eq; exact absurd eq.symm ns
      | some sg1 =>
        simp only [et] at eq
        have I5' := I5.pinned (stat n0 fr5) (T.obj _ _ st5)
        refine wpAny_mono ((hg i).run _ s5 σ H5 x u (fun σ' H' => H' = H5 ∧ At Z.K (ctxI Z.K i) W5 sg1 σ' H') I5' r5 (ht a5 rd et fun σ' a' => ⟨rfl, a'⟩)) (fun _ s6 h6 => ?_) fun x s' hx => segu_out g k rfl rfl hx
        obtain ⟨σ6, H6, I6, rfl, a6⟩ := h6
        have hip' : ∀ q ∈ Z.pn ++ (ip ++ pinsAt fp s5.heap), Z.n0 ≤ q.1 := fun q hq => by
          rcases List.mem_append.mp hq with z | z
          · exact hip q (List.mem_append_left _ z)
          · rcases List.mem_append.mp z with z | z
            · exact hip q (List.mem_append_right _ z)
            · exact f0 _ (of_pinsAt z).1
        refine hb i (ip ++ pinsAt fp s5.heap) _ _ _ _ id id _ W5 s6 σ6 H6 W5 sg1 (gc_loopd g rfl rfl) hip' ⟨fun i' fl f s7 σ7 H7 W7 sg7 hf l7 lb7 I7 a7 e7 ns7 n07 => ?_, fun i' x s2 hx => segu_out g k rfl rfl hx⟩ (Vw.Le.refl _) (lb.trans l5) I6 a6 eq ns n0
        have st7 : tn (j + 1) s7.heap := T.keep _ _ _ st5 fun b hb o e => (I7.pin (b, o) (List.mem_append_right _ (List.mem_append_right _ (mem_pinsAt hb e)))).1
        have fr7 : ∀ b ∈ fp, H7 b = none := fun b hb => by
          obtain ⟨o, e, _⟩ := T.obj _ _ st5 b hb
          exact (I7.pin (b, o) (List.mem_append_right _ (List.mem_append_right _ (mem_pinsAt hb e)))).2.1
        have lW : W.Le W7 := l5.trans l7
        cases fl with
        | nx =>
          cases f with
          | next => exact segu_again rfl (ih (j + 1) i' s7 σ7 H7 W7 sg7 (by simp at hj; omega) hd' (l1.trans lW) (l0.trans lW) lb7 I7.unpinned st7 fr7 a7 e7 ns7 n07)
          | _ => exact hf.elim
        | ct =>
          cases f with
          | cont => exact segu_again rfl (ih (j + 1) i' s7 σ7 H7 W7 sg7 (by simp at hj; omega) hd' (l1.trans lW) (l0.trans lW) lb7 I7.unpinned st7 fr7 a7 e7 ns7 n07)
          | _ => exact hf.elim
        | bk =>
          cases f with
          | brk => exact segu_leaf (.ok .next) (k.ok i' .nx .next s7 σ7 H7 W7 sg7 trivial (l0.trans lW) lb7 I7.unpinned a7 e7 ns7 n07)
          | _ => exact hf.elim
        | rt d => exact hf.elim
        | ro d => exact hf.elim
  exact loop xs 0 i s2 σ H2 W1 sg1 (Nat.zero_add _) rfl (Vw.Le.refl _) (l0.trans l1) (lb.trans l1) I2 st2 (fun b hb => (f2 b hb).1) a1 eq ns n0
end
end Gn
set_option maxHeartbeats 2000000
/-! Gn5: the consumer's side: one turn of a sleeping generator. -/
namespace Gn
open PySem PySem.Spec PyProof.Rows GenW L2 Dn
/-- a sleeper and what it will hand out -/
def GSlp (Z : Gs) (pl : List (Addr × Obj)) (W : Vw) (t : List MO → Gt) (gs : GenState) : Prop := ∀ s2 sb2 H2 W2 st2, W.Le W2 → Okk Z.K W2 st2 H2 → Res Z pl s2 sb2 H2 → t st2 ≠ .stk → Ready (model Z.P Z.w) Z.A (Wish Z (t st2) sb2 H2 W2) gs s2
abbrev zOf (X : Cx) (N : List Str) (qual : Str) (scope : Scope) (f : Addr) (cd : Value) (n0 : Nat) (pn : List (Addr × Obj)) : Gs := ⟨X.prog, X.w, X.K, X.mg, X.base, N, qual, scope, f, cd, X.A.in1, X.stack, n0, pn⟩
section
variable {X : Cx} {pins pl : List (Addr × Obj)} {σ : L2.St} {H H' : Hp} {s s1 s2 sb : Shared} {n : Nat}
structure Near (X : Cx) (pins : List (Addr × Obj)) (n : Nat) : Prop where
  s0 : X.s_0.heap.objs.size ≤ n
  L : X.env.locals < n
  C : ∀ x c, X.env.cells.lookup x = some c → c < n
  pin : ∀ p ∈ X.pn ++ pins, p.1 < n
theorem inv_hide (I : Inv X pins σ H s) (N : Near X pins n) {G : Heap} (g1 : ∀ b o, G.get? b = some o → s.heap.get? b = some o) (g2 : ∀ b, (b < n ∨ H b ≠ none) → G.get? b = s.heap.get? b) {s' : Shared} (eh : s'.heap = G) (eo : s'.os = s.os) (hb : AllBare s'.gens) : Inv X pins σ H s' := by
  have old : ∀ b o, X.s_0.heap.get? b = some o → b < n := fun b o e => Nat.lt_of_lt_of_le (Heap.lt_size e) N.s0
  have cel : ∀ x c v, X.env.cells.lookup x = some c → s.heap.IsCell c v → s'.heap.IsCell c v := fun x c v e ⟨o, ho, hd⟩ => ⟨o, by rw [eh, g2 c (.inl (N.C x c e))]; exact ho, hd⟩
  refine ⟨I.ok, eo.trans I.os, hb, ⟨fun b o e nn hb hx => ?_, fun b o e nn hb hx => ?_, I.base.free, fun b o e hx => ?_, I.base.tups, I.base.frzs, I.base.tbls⟩, ?_, fun x c e => ?_, I.free, I.freeC, fun p hp => ?_, ?_, I.len⟩
  · rw [eh, g2 b (.inl (old b o e))]; exact I.base.keep b o e nn hb hx
  · rw [eh, g2 b (.inl (old b o e))]; exact I.base.slot b o e nn hb hx
  · rw [eh, g2 b (.inl (old b o e))]; exact I.base.there b o e hx
  · obtain ⟨m, ⟨o, es, ep, ho, r⟩, hl⟩ := I.loc
    refine ⟨m, ⟨o, es, ep, by rw [eh, g2 _ (.inl N.L)]; exact ho, r⟩, fun i x v e1 e2 e3 => ?_⟩
    obtain ⟨u, ru, lk⟩ := hl i x v e1 e2 e3
    refine ⟨u, ru, ?_⟩
    rcases lk with lk | ⟨kd, c, e, z⟩
    · exact .inl lk
    · exact .inr ⟨kd, c, e, cel x c _ e z⟩
  · obtain ⟨v, z⟩ := I.cell x c e
    exact ⟨v, cel x c v e z⟩
  · obtain ⟨h1, h2⟩ := I.pin p hp
    exact ⟨by rw [eh, g2 _ (.inl (N.pin p hp))]; exact h1, h2⟩
  · refine fun b o q => (I.hok b o q).stay (fun c u hc r => ?_) (fun _ r => r) fun _ _ r => r
    rw [eh, g2 c (.inr ?_)]; exact r
    rcases hc with hc | hc
    · rw [hc, q]; exact fun z => nomatch z
    · rw [hc]; exact fun z => nomatch z
theorem hp_there {P : Program} {w : World} {h : Heap} (hok : HOk P w H h) {b : Addr} (e : H b ≠ none) : ∃ o, h.get? b = some o := by
  cases q : H b with
  | none => exact absurd q e
  | some o =>
    have x := hok b o q
    cases o with
    | lst xs => obtain ⟨_, _, _, _, e⟩ := x; exact ⟨_, e⟩
    | tup xs =>
      obtain ⟨_, _, _, o, e, _⟩ := x
      exact ⟨_, e⟩
    | dK kvs => obtain ⟨_, _, _, _, o, _, _, e, _⟩ := x; exact ⟨_, e⟩
    | dT kvs => obtain ⟨_, _, _, _, o, _, _, e, _⟩ := x; exact ⟨_, e⟩
    | set S n => obtain ⟨o, _, _, _, e, _⟩ := x; exact ⟨_, e⟩
    | ins C dx fs => obtain ⟨_, _, _, e, _⟩ := x; exact ⟨_, e⟩
    | own y => obtain ⟨_, e⟩ := x; exact ⟨_, e⟩
    | xd fs => obtain ⟨_, ⟨_, _, _, e, _⟩, _⟩ := x; exact ⟨_, e⟩
    | rng lo hi => obtain ⟨_, _, _, e⟩ := x; exact ⟨_, e⟩
    | frz ob u => obtain ⟨e, _⟩ := x; exact ⟨_, e⟩
    | tbl ps => exact ⟨_, show h.get? b = some _ from x⟩
    | met f y => exact ⟨_, show h.get? b = some _ from x⟩
    | ext φ => obtain ⟨_, ⟨_, e⟩, _⟩ := x; exact ⟨_, e⟩
theorem funFrames_at {base h h' : Heap} : ∀ {l : List PySem.Env}, h.FunFrames base l → (∀ L ∈ frs l, h'.get? L = h.get? L) → h'.FunFrames base l
  | [], _, _ => trivial
  | env :: l, hf, hn => by
    obtain ⟨hk, ⟨L, o, hfr, hb, ho, hd⟩, hr⟩ := hf
    refine ⟨hk, ⟨L, o, hfr, hb, ?_, hd⟩, funFrames_at hr fun b hb => ?_⟩
    · rw [hn L (List.mem_filterMap.mpr ⟨env, List.mem_cons_self, hfr⟩)]; exact ho
    · obtain ⟨e, he, q⟩ := List.mem_filterMap.mp hb
      exact hn b (List.mem_filterMap.mpr ⟨e, List.mem_cons_of_mem _ he, q⟩)
/-- the heap cut off -/
theorem trunc (h : Heap) {n : Nat} (hn : n ≤ h.objs.size) : ∃ G : Heap, G.objs.size = n ∧ ∀ b, G.get? b = if b < n then h.get? b else none := by
  refine ⟨⟨h.objs.extract 0 n, h.life⟩, ?_, fun b => ?_⟩
  · show (h.objs.extract 0 n).size = n
    rw [Array.size_extract]; omega
  · unfold Heap.get?
    show (match (h.objs.extract 0 n)[b]? with | some ⟨_, _, .freed, _⟩ => none | o => o) = _
    by_cases hb : b < n
    · rw [if_pos hb]
      have e : (h.objs.extract 0 n)[b]? = h.objs[b]? := by
        rw [Array.getElem?_extract, if_pos (by rw [Nat.min_eq_left hn]; omega), Nat.zero_add]
      rw [e]
      generalize h.objs[b]? = x
      cases x with
      | none => rfl
      | some o =>
        obtain ⟨c, d, dt, sl⟩ := o
        cases dt <;> rfl
    · rw [if_neg hb]
      have e : (h.objs.extract 0 n)[b]? = none := by
        rw [Array.getElem?_extract, if_neg (by rw [Nat.min_eq_left hn]; omega)]
      rw [e]
/-- what a resume is owed is there -/
theorem near_res {N : List Str} {qual : Str} {scope : Scope} {f : Addr} {cd : Value} {pn : List (Addr × Obj)} (I : Inv X pins σ H s) (Nr : Near X pins n) (hn : n ≤ s.heap.objs.size) (kp : ∀ p ∈ pl, s.heap.get? p.1 = some p.2 ∧ H p.1 = none) {s' : Shared} (eh : s'.heap = s.heap) (eo : s'.os = s.os) (hb : AllBare s'.gens) :
    ∃ sb, Res (zOf X N qual scope f cd n pn) pl s' sb H ∧ (∀ b, sb.heap.get? b = if b < n then s.heap.get? b else none) ∧ sb.os = s.os := by
  obtain ⟨G, gs, gg⟩ := trunc s.heap hn
  have up : ∀ b o, b < n → s.heap.get? b = some o → G.get? b = some o := fun b o l e => by rw [gg, if_pos l]; exact e
  refine ⟨{ s with heap := G }, ⟨eo, fun b o e => ?_, ?_, ?_, fun b hb => I.stkFree b hb, gs, fun b o e => ?_, by rw [eh]; exact I.hok, hb, fun p hp => by rw [eh]; exact kp p hp⟩, gg, rfl⟩
  · obtain ⟨e1, e2⟩ := I.bs b o e
    exact ⟨up b o (Nat.lt_of_lt_of_le (Heap.lt_size e) (Nat.le_trans I.ok.bsz Nr.s0)) e1, e2⟩
  · show X.base.objs.size ≤ G.objs.size
    rw [gs]; exact Nat.le_trans I.ok.bsz Nr.s0
  · refine funFrames_at I.stack fun L hL => ?_
    show G.get? L = _
    rw [gg, if_pos ?_]
    rcases List.mem_cons.mp (I.stkSub L hL) with z | z
    · rw [z]; exact Nr.L
    · obtain ⟨_, o, ho, _⟩ := I.ok.funs.mem z
      exact Nat.lt_of_lt_of_le (Heap.lt_size ho) Nr.s0
  · have e : G.get? b = some o := e
    rw [gg] at e
    rw [eh]
    split at e
    · exact e
    · cases e
/-- .. and the way back -/
theorem near_back {Z : Gs} (I : Inv X pins σ H s) (Nr : Near X pins n) (gg : ∀ b, sb.heap.get? b = if b < n then s.heap.get? b else none) (eb : sb.os = s.os) (hP : Z.P = X.prog) (hw : Z.w = X.w) (ho : Z.outer = X.stack) (Ld : Land Z sb H H' s1)
    (hg : ∀ b, H b ≠ none → H' b ≠ none) (eo : s2.os = s1.os) (hb : AllBare s2.gens) (k : ∀ b o, s1.heap.get? b = some o → s2.heap.get? b = some o) : Inv X pins σ H' s2 := by
  obtain ⟨G, g1, g2⟩ := restrict s.heap fun b => decide (b < n) || (H b).isSome
  have a1 : ∀ b, (b < n ∨ H b ≠ none) → G.get? b = s.heap.get? b := fun b hb => g1 b (by
    rcases hb with z | z
    · simp [z]
    · simp [Option.isSome_iff_ne_none.mpr z])
  have a2 : ∀ b o, G.get? b = some o → s.heap.get? b = some o ∧ (b < n ∨ H b ≠ none) := fun b o e => by
    cases q : (decide (b < n) || (H b).isSome) with
    | false => rw [g2 b q] at e; cases e
    | true =>
      rw [g1 b q] at e
      refine ⟨e, ?_⟩
      rcases Bool.or_eq_true _ _ |>.mp q with z | z
      · exact .inl (by simpa using z)
      · exact .inr (Option.isSome_iff_ne_none.mp z)
  have Ih : Inv X pins σ H { s with heap := G } := inv_hide I Nr (fun b o e => (a2 b o e).1) a1 rfl rfl I.bare
  have cut : ∀ b o, G.get? b = some o → H b = none → sb.heap.get? b = some o := fun b o e nn => by
    obtain ⟨e1, e2⟩ := a2 b o e
    rcases e2 with z | z
    · rw [gg, if_pos z]; exact e1
    · exact absurd nn z
  have hok' : HOk X.prog X.w H' s2.heap := by
    have z := Ld.hok
    rw [hP, hw] at z
    exact z.kept k
  have un := Ld.un
  rw [ho] at un
  refine Ih.call' (ch := []) (eo.trans (Ld.os.trans eb)) ⟨fun b o e nn hb hx => ?_, fun b o e nn hb hx => ?_, fun b o e nn hx => ?_, fun b o e hx => ?_, un.tups, un.frzs, un.tbls⟩ hok' hb (fun _ z => nomatch z)
  · exact k b o (un.keep b o (cut b o e nn) nn hb hx)
  · obtain ⟨sl, q⟩ := un.slot b o (cut b o e nn) nn hb hx
    exact ⟨sl, k _ _ q⟩
  · exact un.free b o (cut b o e nn) nn hx
  · obtain ⟨e1, e2⟩ := a2 b o e
    by_cases nn : H b = none
    · obtain ⟨o', q⟩ := un.there b o (cut b o e nn) hx
      exact ⟨o', k _ _ q⟩
    · exact hp_there hok' (hg b nn)
/-- an exception that the generator let out is the consumer's -/
theorem near_exc {Y : WX} {E : XK} {u : Value} (I : Inv X pins σ H s) (Nr : Near X pins n) (gg : ∀ b, sb.heap.get? b = if b < n then s.heap.get? b else none) (eb : sb.os = s.os) (tk : Takes X Y) (hE : ∀ cls d H', E cls d H' → Y cls d σ H' ∧ ∀ b, H b ≠ none → H' b ≠ none)
    (c : CX X.prog X.w X.stack H sb E u s1) (eh : s2.heap = s1.heap) (eo : s2.os = s1.os) (hb : AllBare s1.gens → AllBare s2.gens) : X.xe u s2 := by
  obtain ⟨G, g1, g2⟩ := restrict s.heap fun b => decide (b < n) || (H b).isSome
  have a1 : ∀ b, (b < n ∨ H b ≠ none) → G.get? b = s.heap.get? b := fun b hb => g1 b (by
    rcases hb with z | z
    · simp [z]
    · simp [Option.isSome_iff_ne_none.mpr z])
  have a2 : ∀ b o, G.get? b = some o → s.heap.get? b = some o ∧ (b < n ∨ H b ≠ none) := fun b o e => by
    cases q : (decide (b < n) || (H b).isSome) with
    | false => rw [g2 b q] at e; cases e
    | true =>
      rw [g1 b q] at e
      refine ⟨e, ?_⟩
      rcases Bool.or_eq_true _ _ |>.mp q with z | z
      · exact .inl (by simpa using z)
      · exact .inr (Option.isSome_iff_ne_none.mp z)
  have Ih : Inv X pins σ H { s with heap := G } := inv_hide I Nr (fun b o e => (a2 b o e).1) a1 rfl rfl I.bare
  have cut : ∀ b o, G.get? b = some o → H b = none → sb.heap.get? b = some o := fun b o e nn => by
    obtain ⟨e1, e2⟩ := a2 b o e
    rcases e2 with z | z
    · rw [gg, if_pos z]; exact e1
    · exact absurd nn z
  have fr : ∀ b, b ∈ frs X.stack → b < n := fun b hb => by
    rcases List.mem_cons.mp (I.stkSub b hb) with z | z
    · rw [z]; exact Nr.L
    · obtain ⟨_, o, ho, _⟩ := I.ok.funs.mem z
      exact Nat.lt_of_lt_of_le (Heap.lt_size ho) Nr.s0
  obtain ⟨a, B, H1, cls, d, rfl, fl, hok, ub, na, os, ag, hEe⟩ := c
  obtain ⟨hY, ht⟩ := hE cls d H1 hEe
  refine tk _ _ (XE.of_call (E := E) (W := Y) Ih (fun cls d H' h => (hE cls d H' h).1) ⟨a, B, H1, cls, d, rfl, by rw [eh]; exact fl, hok, ⟨fun b o e nn hb => ?_, fun b o e hb => ?_, fun b o e nn => ?_, fun b o e hb => ?_, ub.tups, ub.frzs, ub.tbls⟩, na, eo.trans (os.trans eb), hb ag, hEe⟩)
  · exact ub.keep b o (cut b o e nn) nn hb
  · obtain ⟨sl, q⟩ := ub.slot b o (cut b o e (I.stkFree b hb)) hb
    exact ⟨sl, by rw [eh]; exact q⟩
  · exact ub.free b o (cut b o e nn) nn
  · by_cases nn : H b = none
    · exact ub.there b o (cut b o e nn) hb
    · exact hp_there hok (ht b nn)
end
end Gn
set_option maxHeartbeats 2000000
/-! Gn6: for over a generator. -/
namespace Gn
open PySem PySem.Spec PyProof.Rows GenW L2 Dn
theorem cx_rel {P : Program} {w : World} {outer : List PySem.Env} {H : Hp} {s s' r' : Shared} {E : XK} {u : Value} (c : CX P w outer H s E u s') (eh : r'.heap = s'.heap) (eo : r'.os = s'.os) (hb : AllBare s'.gens → AllBare r'.gens) : CX P w outer H s E u r' := by
  obtain ⟨a, B, H', cls, d, rfl, fl, hok, ub, na, os, ag, hE⟩ := c
  exact ⟨a, B, H', cls, d, rfl, by rw [eh]; exact fl, hok, by rw [eh]; exact ub, na, eo.trans os, hb ag, hE⟩
/-- an exception's way out does not look at who sleeps -/
def XG (X : Cx) : Prop := ∀ (D : Nat → Prop) (f : Nat → GenState) (s r : Shared) (e : Value), Rel D f s r → X.xe e s → X.xe e r
theorem xg_cx {P : Program} {w : World} {K : PySem.W.Frag} {mg : Str → Option Value} {base : Heap} {N : List Str} {qual : Str} {scope : Scope} {f : Addr} {cd : Value} {A : Around} {outer : List PySem.Env} {s : Shared} {H : Hp} {E : XK} : XG (cxOf (L2.CX P w) P w K mg base N qual scope f cd A outer s H E) :=
  fun D f s' r e R h => wpAny_mono (sim_any h R) (fun _ r' ⟨s'', R', c⟩ => cx_rel c R'.heap.symm R'.os.symm R'.bare) fun e' r' ⟨s'', R', c⟩ => cx_rel c R'.heap.symm R'.os.symm R'.bare
theorem inv_gens {X : Cx} {pins : List (Addr × Obj)} {σ : L2.St} {H : Hp} {s s' : Shared} (I : Inv X pins σ H s) (eh : s'.heap = s.heap) (eo : s'.os = s.os) (hb : AllBare s'.gens) : Inv X pins σ H s' :=
  I.call' (ch := []) eo (Un.kept fun b u q => by rw [eh]; exact q) (by rw [eh]; exact I.hok) hb fun _ z => nomatch z
theorem ix_le {W W' : Vw} {H H' : Hp} {K : PySem.W.Frag} {st' : List MO} (l : W.Le W') (ok' : Okk K W' st' H') (gr : Grow W W' H H') : ∀ b, H b ≠ none → H' b ≠ none := fun b hb => by
  by_cases hm : b ∈ W.hs
  · obtain ⟨i, hi⟩ := List.getElem?_of_mem hm
    exact ok'.some (l.pre i b hi)
  · cases q : H b with
    | none => exact absurd q hb
    | some o =>
      rw [gr.keep b o q hm]
      exact fun z => nomatch z
/-- exceptions that end no iteration: by the names of their classes -/
def NoStops (K : PySem.W.Frag) (cs : List Str) : Prop := ∀ c ∈ cs, ∀ C, ClsAt K c C → PySem.W.subIn K (.ref C) (.type "StopIteration") = some false
def okE (cs : List Str) : PV → Bool
  | .obj c _ _ => decide (c ∈ cs)
  | _ => false
section
variable {X : Cx} {Y : WX} {pins pl : List (Addr × Obj)} {σ : L2.St} {H : Hp} {s : Shared} {n0 g k : Nat} {a : Addr} {N cs : List Str} {qual : Str} {scope : Scope} {f : Addr} {cd : Value} {pn : List (Addr × Obj)} {W : Vw} {sg : S} {C : Dn.Ctx} {t : List MO → Gt} {gs : GenState}
/-- a sleeping generator, as its consumer holds it -/
structure Held (X : Cx) (pins : List (Addr × Obj)) (Z : Gs) (a : Addr) (g : Nat) (pl : List (Addr × Obj)) (W : Vw) (H : Hp) (s : Shared) (t : List MO → Gt) (gs : GenState) : Prop where
  near : Near X pins Z.n0
  ga : Z.n0 ≤ a
  gen : s.gens[g]? = some gs
  pni : ∀ h : Heap, (∀ p ∈ Z.pn, h.get? p.1 = some p.2) → h.IsGen a g
  pnl : ∀ p ∈ Z.pn, p ∈ pl
  kept : Kept Z pl H s
  slp : GSlp Z pl W t gs
theorem Held.isGen {Z : Gs} (h : Held X pins Z a g pl W H s t gs) : s.heap.IsGen a g := h.pni _ fun p hp => (h.kept p (h.pnl p hp)).1
theorem Held.le {Z : Gs} (h : Held X pins Z a g pl W H s t gs) : Z.n0 ≤ s.heap.objs.size := by
  obtain ⟨o, nm, qn, ho, _⟩ := h.isGen
  exact Nat.le_trans h.ga (Nat.le_of_lt (Heap.lt_size ho))
theorem turn_gen {Q : Option Value → Shared → Prop} (hc : X.calm = true) (hr : Room k X.A) (tk : Takes X Y) (ns : NoStops X.K cs) (I : Inv X pins σ H s) (at' : At X.K (C.wi Y) W sg σ H) (hd : Held X pins (zOf X N qual scope f cd n0 pn) a g pl W H s t gs)
    (nstk : t sg.sto ≠ .stk)
    (hfin : ∀ st, t sg.sto = .fin st → ∀ s2 W' H', W.Le W' → Inv X pins σ H' s2 → At X.K (C.wi Y) W' { sg with sto := st } σ H' → Q none s2)
    (hyld : ∀ v st kt, t sg.sto = .yld v st kt → ∀ s2 W' H' x xv gs' pl', RelV xv x → Rep X.K W' xv v → W.Le W' → Inv X pins σ H' s2 → At X.K (C.wi Y) W' { sg with sto := st } σ H' → asleep gs' → Held X pins (zOf X N qual scope f cd n0 pn) a g pl' W' H' s2 kt gs' → Q (some x) s2)
    (hexc : ∀ e st, t sg.sto = .exc e st → okE cs e = true ∧ ∀ W' H' cls d, W.Le W' → At X.K (C.wi Y) W' { sg with sto := st } σ H' → ERep X.K W' cls d e → Y cls d σ H') :
    wpAny (model X.prog X.w) X.A (pyNext (.ref a)) Q X.xe s := by
  have Nr : Near X pins n0 := hd.near
  obtain ⟨sb, R, gg, eb⟩ := near_res (N := N) (qual := qual) (scope := scope) (f := f) (cd := cd) (pn := pn) (pl := pl) I Nr hd.le (fun p hp => let h := hd.kept p hp; ⟨h.1, h.2.1⟩) (s' := s.setGen g .running) rfl rfl (allBare_setGen I.bare rfl)
  have rd := hd.slp _ sb H W sg.sto (Vw.Le.refl W) at'.ok R nstk
  have hgl : g < s.gens.size := (Array.getElem?_eq_some_iff.mp hd.gen).1
  refine wpAny_gsz (n := g + 1) hgl (next_genU (W := Wish (zOf X N qual scope f cd n0 pn) (t sg.sto) sb H W) (I.ok.hd hc) I.nolimit (by have := hr.dp; omega) hd.isGen hd.gen rd fun e s₁ he => ?_)
  cases eτ : t sg.sto with
  | stk => exact absurd eτ nstk
  | fin st =>
    rw [eτ] at he
    unfold Wish at he
    obtain ⟨fl, rfl, hf, W', H', l, ok, gr, ld⟩ := he
    refine ⟨rfl, hf, fun h' hk _ => ?_⟩
    exact hfin st eτ _ W' H' l (near_back I Nr gg eb rfl rfl rfl ld (ix_le l ok gr) rfl (allBare_setGen ld.bare rfl) hk) (at'.call l ok gr)
  | exc x st =>
    rw [eτ] at he
    unfold Wish at he
    obtain ⟨u, rfl, c, hp⟩ := he
    obtain ⟨hok, hY⟩ := hexc x st eτ
    have c : CX X.prog X.w X.stack H sb (exT X.K H W x st) u s₁ := c
    refine ⟨rfl, hd.pni _ hp, ?_, fun _ => ?_⟩
    · refine notStop_of (K := X.K) (fun cls d H' h => ?_) (I.ok.mod.kin.keeps fun b o e => ?_) c
      · obtain ⟨W', l, ok, gr, er⟩ := h
        cases er with
        | own hC => exact ns _ (by simpa [okE] using hok) _ hC
        | blt => cases hok
      · obtain ⟨a, B, H', cls, d, rfl, fl, hok, ub, na, os, ag, hE⟩ := c
        obtain ⟨e1, e2⟩ := R.bs b o e
        refine fl.1 b o (ub.keep b o e1 e2 fun hm => ?_)
        have z := (I.stack.mem hm).1
        rw [e] at z; cases z
    · exact near_exc I Nr gg eb tk (E := exT X.K H W x st) (fun cls d H' ⟨W', l, ok, gr, er⟩ => ⟨hY W' H' cls d l (at'.call l ok gr) er, ix_le l ok gr⟩) c rfl rfl (fun h => allBare_setGen h rfl)
  | yld v st kt =>
    rw [eτ] at he
    unfold Wish at he
    obtain ⟨x, gd, lv, kk, c, p, fs, rfl, hq, W', H', xv, pl', rv, rep, l, ok, gr, ld, kp, pnl, le', sl⟩ := he
    refine ⟨hq, fun hsz => ?_⟩
    have hsz1 : g < s₁.gens.size := by
      have q : (s₁.setGen g (End.susp x gd lv kk c p fs).genState).gens.size = s₁.gens.size := setGen_size _ _ _
      have hsz : g + 1 ≤ (s₁.setGen g (End.susp x gd lv kk c p fs).genState).gens.size := hsz
      omega
    have I2 : Inv X pins σ H' (s₁.setGen g (End.susp x gd lv kk c p fs).genState) := near_back I Nr gg eb rfl rfl rfl ld (ix_le l ok gr) rfl (allBare_setGen ld.bare (End.bare_of_quiet hq)) (fun _ _ e => e)
    exact hyld v st kt eτ _ W' H' x xv _ pl' rv rep l I2 (at'.call l ok gr) (by show asleep (.suspended ..); trivial) ⟨Nr, hd.ga, setGen_at hsz1, hd.pni, pnl, kp, sl⟩
/-! ### for over a generator -/
def driveG (cs : List Str) (tg : Tgt) (body : M Fl) : Nat → (List MO → Gt) → M Fl
  | 0, _ => stuck
  | n + 1, t => fun s => match t s.sto with
    | .fin st => .ok .nx { s with sto := st }
    | .exc e st => if okE cs e = true then .exc e { s with sto := st } else .stk
    | .stk => .stk
    | .yld v st k => match tg v { s with sto := st } with
      | none => .stk
      | some s1 => match body s1 with
        | .ok .nx s' => driveG cs tg body n k s'
        | .ok .ct s' => driveG cs tg body n k s'
        | .ok .bk s' => .ok .nx s'
        | .ok (.rt d) s' => .ok (.rt d) s'
        | .ok (.ro d) s' => .ok (.ro d) s'
        | .exc e s' => .exc e s'
        | .stk => .stk
def genFor (cs : List Str) (cg : M (List MO → Gt)) (tg : Tgt) (n : Nat) (body : M Fl) : M Fl := bnd cg fun t => driveG cs tg body n t
/-- an expression that makes a generator -/
def Here (X : Cx) (pins : List (Addr × Obj)) (u : Value) (W : Vw) (H : Hp) (s : Shared) (t : List MO → Gt) : Prop :=
  ∃ (a : Addr) (g : Nat) (N : List Str) (qual : Str) (scope : Scope) (f : Addr) (cd : Value) (n0 : Nat) (pn pl : List (Addr × Obj)) (gs : GenState), u = .ref a ∧ Held X pins (zOf X N qual scope f cd n0 pn) a g pl W H s t gs
structure GIter (X : Cx) (Y : WX) (e : Expr) (cg : M (List MO → Gt)) : Prop where
  run : ∀ (pins : List (Addr × Obj)) (s : Shared) (σ : L2.St) (H : Hp) (C : Dn.Ctx) (W : Vw) (sg : S) (Q : (List MO → Gt) → S → Vw → Hp → Prop), Inv X pins σ H s → At X.K (C.wi Y) W sg σ H → Pst X.K (C.wi Y) W σ (cg sg) Q →
    wpAny (model X.prog X.w) X.A (eval e X.env) (fun u s1 => ∃ t sg1 W1 H1, W.Le W1 ∧ Inv X pins σ H1 s1 ∧ At X.K (C.wi Y) W1 sg1 σ H1 ∧ Here X pins u W1 H1 s1 t ∧ Q t sg1 W1 H1) X.xe s
theorem go_gen {M : Model} {A : Around} {E : Value → Shared → Prop} {s : Shared} {te : Expr} {u : Value} {Q : Unit → Shared → Prop} (h : s.heap.IsGen a g) (hQ : Q () s) : wpAny M A (letOwnedTupleGo te (.ref a) u) Q E s := by
  obtain ⟨o, nm, qn, ho, hc, hd, _⟩ := h
  exact go_of ho hc hd (by decide +kernel) hQ
theorem ps_forG {te iter : Expr} {body : List Stmt} {pos : Pos} {gt : TG} {tg : Tgt} {cg : M (List MO → Gt)} {fa : M Fl} (n : Nat) (hp : PassesOwn (model X.prog X.w) X.A X.env X.xe) (hc : X.calm = true) (hr : Room k X.A) (tk : Takes X Y) (xg : XG X) (ns : NoStops X.K cs)
    (hi : GIter X Y iter cg) (hg : PG X te gt) (ht : TgOk X.K gt tg) (hb : PSs X body (denS X.K Y fa)) (hs : ∀ x, foldedSetIterable iter X.env x = pure x := by intro _; rfl) : PS X (.For te iter body [] pos) (denS X.K Y (genFor cs cg tg n fa)) := by
  refine ⟨fun pins s σ H D I h => ?_⟩
  obtain ⟨C, W, sg, at', p⟩ := h
  refine wpAny_For (wpAny_mono (hi.run pins s σ H C W sg (fun t sg1 W1 H1 => PstS X.K (C.wi Y) W1 D (driveG cs tg fa n t sg1)) I at' (PstS.bnd p)) (fun u s1 h1 => ?_) fun _ _ x => x) hs
  obtain ⟨t, sg1, W1, H1, l1, I1, a1, ⟨a, g, N, qual, scope, f, cd, n0, pn, pl, gs, rfl, hd1⟩, p1⟩ := h1
  refine wpAny_pyIter_gen hd1.isGen ?_
  refine codeAny_forLoop_any (fun m s' => ∃ t gs pl σ' H' W' sg', Inv X pins σ' H' s' ∧ At X.K (C.wi Y) W' sg' σ' H' ∧ Held X pins (zOf X N qual scope f cd n0 pn) a g pl W' H' s' t gs ∧ PstS X.K (C.wi Y) W' D (driveG cs tg fa m t sg')) ?_ n ⟨t, gs, pl, σ, H1, W1, sg1, I1, a1, hd1, p1⟩
  rintro m s2 ⟨t, gs, pl, σ, H, W, sg, I, at', hd, p⟩
  cases m with
  | zero => exact p.elim
  | succ m =>
    unfold driveG at p
    refine wpAny_passesOwn hp (turn_gen (t := t) hc hr tk ns I at' hd (fun e => by simp only [e] at p; exact p) (fun st e s3 W' H' l I' a' => ?_) (fun v st kt e s3 W' H' x xv gs' pl' rv rep l I' a' sl hd' => ?_) fun e st eq => ?_)
    · simp only [e] at p
      exact wpAny_execs_nil ⟨σ, H', I', p W' σ H' l a'⟩
    · simp only [e] at p
      refine go_gen hd'.isGen ?_
      have Ip : Inv X (pins ++ pl') σ H' s3 := I'.pins_of fun q hq => (List.mem_append.mp hq).elim (fun z => I'.pin q (List.mem_append_right _ z)) fun z => by
        obtain ⟨q1, q2, q3, q4⟩ := hd'.kept q z
        refine ⟨q1, q2, fun e => ?_, fun hm => ?_, q4⟩
        · have := hd'.near.L
          have q3 : n0 ≤ q.1 := q3
          have : X.env.locals < n0 := this
          exact absurd (Nat.lt_of_lt_of_le this (Nat.le_trans q3 (Nat.le_of_eq e))) (Nat.lt_irrefl _)
        · obtain ⟨_, o, ho, _⟩ := I'.ok.funs.mem hm
          have := Heap.lt_size ho
          have h2 : X.s_0.heap.objs.size ≤ n0 := hd'.near.s0
          have q3 : n0 ≤ q.1 := q3
          exact absurd (Nat.lt_of_lt_of_le this (Nat.le_trans h2 q3)) (Nat.lt_irrefl _)
      have Il : Inv X (pins ++ pl') σ H' (lull s3) := inv_gens Ip rfl rfl (bare_lull Ip.bare)
      cases eT : tg v { sg with sto := st } with
      | none => simp only [eT] at p; exact p.elim
      | some sg1 =>
        simp only [eT] at p
        have A1 := hg.run (pins ++ pl') (lull s3) σ H' xv x (fun σ2 H2 => H2 = H' ∧ At X.K (C.wi Y) W' sg1 σ2 H') Il rv (ht a' rep eT fun σ' a2 => ⟨rfl, a2⟩)
        have dz : dozing s3 g := ⟨gs', hd'.gen, sl⟩
        refine wpAny_passesOwn hp (wpAny_mono (sim_any A1 (rel_lull s3)) (fun _ s4 h4 => ?_) fun x s4 ⟨s4', R4, hx⟩ => xg _ _ _ _ _ R4 hx)
        obtain ⟨s4', R4, σ2, H2, I4, rfl, a4⟩ := h4
        have B1 := hb.run (pins ++ pl') s4' σ2 H2 { nx := fun σ7 H7 => ∃ W7 sg7, W'.Le W7 ∧ At X.K (C.wi Y) W7 sg7 σ7 H7 ∧ PstS X.K (C.wi Y) W7 D (driveG cs tg fa m kt sg7), ct := fun σ7 H7 => ∃ W7 sg7, W'.Le W7 ∧ At X.K (C.wi Y) W7 sg7 σ7 H7 ∧ PstS X.K (C.wi Y) W7 D (driveG cs tg fa m kt sg7), bk := D.nx, rt := D.rt } I4 ⟨C, W', sg1, a4, ?_⟩
        · refine wpAny_passesOwn hp (wpAny_mono (sim_any B1 R4) (fun fl s7 h7 => ?_) fun x s7 ⟨s7', R7, hx⟩ => xg _ _ _ _ _ R7 hx)
          obtain ⟨s7', R7, h7⟩ := h7
          have back : ∀ {σ7 : L2.St} {H7 : Hp}, Inv X (pins ++ pl') σ7 H7 s7' → Inv X (pins ++ pl') σ7 H7 s7 := fun I7 => inv_gens I7 R7.heap.symm R7.os.symm (R7.bare I7.bare)
          have again : ∀ {σ7 : L2.St} {H7 : Hp}, Inv X (pins ++ pl') σ7 H7 s7' → (∃ W7 sg7, W'.Le W7 ∧ At X.K (C.wi Y) W7 sg7 σ7 H7 ∧ PstS X.K (C.wi Y) W7 D (driveG cs tg fa m kt sg7)) → ∃ m', m' < m + 1 ∧ ∃ t gs pl σ' H' W' sg', Inv X pins σ' H' s7 ∧ At X.K (C.wi Y) W' sg' σ' H' ∧ Held X pins (zOf X N qual scope f cd n0 pn) a g pl W' H' s7 t gs ∧ PstS X.K (C.wi Y) W' D (driveG cs tg fa m' t sg') := fun {σ7 H7} I7 ⟨W7, sg7, l7, a7, p7⟩ => by
            have I8 := back I7
            refine ⟨m, Nat.lt_succ_self _, kt, gs', pl', σ7, H7, W7, sg7, I8.unpinned, a7, ⟨hd'.near, hd'.ga, ?_, hd'.pni, hd'.pnl, fun q hq => ?_, fun s2 sb2 H2 W2 st2 lw => hd'.slp s2 sb2 H2 W2 st2 (l7.trans lw)⟩, p7⟩
            · have z := (R7.d g dz).2.1
              rw [z]
              show some ((s3.gens[g]?).getD _) = _
              rw [hd'.gen]; rfl
            · obtain ⟨_, _, q3, q4⟩ := hd'.kept q hq
              obtain ⟨w1, w2, _⟩ := I8.pin q (List.mem_append_right _ (List.mem_append_right _ hq))
              exact ⟨w1, w2, q3, q4⟩
          cases fl with
          | next => obtain ⟨σ7, H7, I7, n7⟩ := h7; exact again I7 n7
          | cont => obtain ⟨σ7, H7, I7, n7⟩ := h7; exact again I7 n7
          | brk => obtain ⟨σ7, H7, I7, q7⟩ := h7; exact ⟨σ7, H7, (back I7).unpinned, q7⟩
          | ret v => obtain ⟨x7, σ7, H7, I7, r7, q7⟩ := h7; exact ⟨x7, σ7, H7, (back I7).unpinned, r7, q7⟩
        · have p := p.up l
          cases eb : fa sg1 with
          | exc _ _ => simp only [eb] at p; exact p
          | stk => simp only [eb] at p; exact p.elim
          | ok fl s4 =>
            simp only [eb] at p
            cases fl with
            | nx => exact fun W4 σ4 H4 l4 at4 => ⟨W4, s4, l4, at4, p.up l4⟩
            | ct => exact fun W4 σ4 H4 l4 at4 => ⟨W4, s4, l4, at4, p.up l4⟩
            | bk => exact fun W4 σ4 H4 l4 at4 => p W4 σ4 H4 l4 at4
            | rt r => exact fun W4 σ4 H4 l4 at4 => p W4 σ4 H4 l4 at4
            | ro r => exact fun W4 σ4 H4 l4 at4 => p W4 σ4 H4 l4 at4
    · simp only [eq] at p
      by_cases ho : okE cs e = true
      · rw [if_pos ho] at p
        exact ⟨ho, fun W' H' cls d l a' er => p W' σ H' cls d l a' er⟩
      · rw [if_neg ho] at p
        exact p.elim
end
end Gn
set_option maxHeartbeats 2000000
/-! Gn7: generator defs and their calls. -/
namespace Gn
open PySem PySem.Spec PyProof.Rows GenW L2 Dn
abbrev GFun := Nat → List PV → List MO → Gt
def finK : Fl → S → Gt := fun fl s => match fl with | .nx => .fin s.sto | _ => .stk
/-- a generator def's tree from its body's -/
def genD (np nn : Nat) (body : Nat → GM) : GFun := fun n ds st => if ds.length = np then body n finK ⟨ds.map (fun d => some (SV.val d)) ++ List.replicate (nn - np) none, st⟩ else .stk
theorem at_start {K : PySem.W.Frag} {N ps : List Str} {vs : List V} {ds : List PV} {W : Vw} {sto : List MO} {H : Hp} {Y : WX} (ok : Okk K W sto H) (rv : Reps K W vs ds) (hds : ds.length = ps.length) (hN : ps.length ≤ N.length) :
    At K ⟨H, W.F, W.hs, Y⟩ W ⟨ds.map (fun d => some (SV.val d)) ++ List.replicate (N.length - ps.length) none, sto⟩ (L2.start N vs) H := by
  have hl : vs.length = ps.length := by rw [rv.length]; exact hds
  have noown : ∀ {i : Nat} {xs : List PV}, (ds.map (fun d => some (SV.val d)) ++ List.replicate (N.length - ps.length) none)[i]? = some (some (.own xs)) → False := fun {i xs} e => by
    by_cases hi : i < ds.length
    · rw [List.getElem?_append_left (by rw [List.length_map]; exact hi), List.getElem?_map] at e
      obtain ⟨d', hd', e2⟩ := Option.map_eq_some_iff.mp e
      cases e2
    · rw [List.getElem?_append_right (by rw [List.length_map]; omega), List.getElem?_replicate] at e
      split at e <;> cases e
  refine ⟨ok, fun a o e _ => e, fun i a e => e, fun a _ => ⟨rfl, fun z => z⟩, ?_, fun i d e => ?_, fun i xs e => (noown e).elim, fun i j xs ys a h1 _ _ _ => (noown h1).elim⟩
  · unfold L2.start
    rw [List.length_append, List.length_append, List.length_map, List.length_map, List.length_replicate, List.length_replicate, hl, hds]
  · have e : (ds.map (fun d => some (SV.val d)) ++ List.replicate (N.length - ps.length) none)[i]? = some (some (.val d)) := e
    by_cases hi : i < ds.length
    · rw [List.getElem?_append_left (by rw [List.length_map]; exact hi), List.getElem?_map] at e
      obtain ⟨d', hd', e2⟩ := Option.map_eq_some_iff.mp e
      cases e2
      obtain ⟨v, hv, r⟩ := rv.get hd'
      refine ⟨v, ?_, r⟩
      unfold L2.start
      rw [List.getElem?_append_left (by rw [List.length_map, hl, ← hds]; exact hi), List.getElem?_map, hv]
      rfl
    · rw [List.getElem?_append_right (by rw [List.length_map]; omega), List.getElem?_replicate] at e
      split at e <;> cases e
/-- a generator that was just made -/
def GMadeD (P : Program) (w : World) (K : PySem.W.Frag) (mg : Str → Option Value) (base : Heap) (j : Nat) (outer : List PySem.Env) (s : Shared) (W : Vw) (t : List MO → Gt) (u : Value) (s' : Shared) : Prop :=
  ∃ (a : Addr) (g : Nat) (c : Code) (N : List Str) (qual : Str) (scope : Scope) (f : Addr) (cd : Value) (go : Obj) (pl : List (Addr × Obj)), u = .ref a ∧ s.heap.objs.size ≤ a ∧ s'.gens[g]? = some (.fresh c) ∧ s'.os = s.os ∧ AllBare s'.gens ∧ (∀ b o, s.heap.get? b = some o → s'.heap.get? b = some o) ∧
    (∀ h : Heap, h.get? a = some go → h.IsGen a g) ∧ (a, go) ∈ pl ∧ (∀ p ∈ pl, s'.heap.get? p.1 = some p.2 ∧ s.heap.objs.size ≤ p.1 ∧ ∀ v, p.2.data ≠ .cell v) ∧
    ∀ A', Room j A' → A'.frames = some outer → A'.guards = some [] → GSlp ⟨P, w, K, mg, base, N, qual, scope, f, cd, A', outer, s.heap.objs.size, [(a, go)]⟩ pl W t (.fresh c)
structure GFnD (P : Program) (w : World) (K : PySem.W.Frag) (mg : Str → Option Value) (base : Heap) (j : Nat) (f : Addr) (fd : FuncData) (ps : List Str) (m : GFun) : Prop where
  run : ∀ (A : Around) (outer : List PySem.Env) (s : Shared) (H : Hp) (args : Args) (us : List Value) (vs : List V) (ds : List PV) (W : Vw) (n : Nat), Room (j + 1) A → Env0 P w K mg base A outer s H → BindsTo s fd args (ps.zip us) → Vals vs us → Reps K W vs ds → ds.length = ps.length →
    codeAny (model P w) A (.call (.ref f) args) (fun r s' => match r with | .ok (.ret u) => GMadeD P w K mg base j outer s W (m n ds) u s' | _ => False) s
theorem GFnD.mono {P : Program} {w : World} {K : PySem.W.Frag} {mg : Str → Option Value} {base : Heap} {i j : Nat} {f : Addr} {fd : FuncData} {ps : List Str} {m : GFun} (F : GFnD P w K mg base i f fd ps m) (h : i ≤ j) : GFnD P w K mg base j f fd ps m :=
  ⟨fun A outer s H args us vs ds W n hr e0 hb r rv hl => codeAny_mono (F.run A outer s H args us vs ds W n (hr.mono (by omega)) e0 hb r rv hl) fun r s' h' => by
    match r, h' with
    | .error e, h' => exact h'
    | .ok .next, h' => exact h'
    | .ok .brk, h' => exact h'
    | .ok .cont, h' => exact h'
    | .ok (.ret u), ⟨a, g, c, N, qual, scope, f, cd, go, pl, h1, h2, h3, h4, h5, h6, h7, h8, h9, h10⟩ => exact ⟨a, g, c, N, qual, scope, f, cd, go, pl, h1, h2, h3, h4, h5, h6, h7, h8, h9, fun A' hr' => h10 A' (hr'.mono h)⟩⟩
theorem cells_none : ∀ (names : List (Str × NameKind)) (n : Nat) (acc : List (Str × Addr)), (∀ y ∈ names, y.2 ≠ .cell) → cellsFrom n names acc = acc
  | [], _, _, _ => rfl
  | (x, k) :: r, n, acc, h => by
    have h0 : k ≠ .cell := h (x, k) List.mem_cons_self
    show (if k == .cell then _ else _) = _
    rw [if_neg (by simpa using h0)]
    exact cells_none r n acc fun y hy => h y (List.mem_cons_of_mem _ hy)
theorem segu_func {prog : Program} {w : World} {A : Around} {W : EndW} {env : PySem.Env} {body : List Stmt} {fs : List Frame} {s : Shared}
    (h : SegU (model prog w) A W (.func body env) ((execs body env).wrap (fun f => .pure (.done (.ret (match f with | .ret v => v | _ => .none)))) (fun e => (leaving env e).wrap (fun _ => .raise e) .raise id id) id id) fs s) :
    SegU (model prog w) A W (.func body env) ((model prog w).den (.func body env)) fs s := by
  show SegU _ A W _ (.point [] fun _ => ((execs body env).onRaise (leaving env)) >>= _) fs s
  refine segu_point ?_
  rw [Sem.onRaise_eq_wrap, Sem.bind_eq_wrap', Sem.wrap_wrap]
  rw [Sem.wrap_congr (execs body env) _ _ (K' := fun f => .pure (.done (.ret (match f with | .ret v => v | _ => .none))))
    (H' := fun e => (leaving env e).wrap (fun _ => .raise e) .raise id id) (fun f => by cases f <;> rfl)
    (fun e => by rw [Sem.bind_eq_wrap, Sem.wrap_wrap]; rfl)]
  exact h
/-- THE RULE: a generator def, by its body -/
theorem gfn_den {P : Program} {w : World} {K : PySem.W.Frag} {mg : Str → Option Value} {base : Heap} {k : Nat} {f : Addr} {fd : FuncData} {x qual : Str} {st : Stmt} {N ps : List Str} {body : Nat → GM}
    (F : Dn.Fun K x qual st f fd) (S : GScope N ps (defScope st)) (hN : ps.length ≤ N.length) (hnc : ∀ y ∈ (defScope st).names, y.2 ≠ .cell)
    (hbody : ∀ (cdv : Value) (A : Around) (outer : List PySem.Env) (n0 : Nat) (pn : List (Addr × Obj)) (n : Nat), (A.deeper (envOfC qual (defScope st) n0 f cdv)).guards = some [] → Room k (A.deeper (envOfC qual (defScope st) n0 f cdv)) → NoCell ⟨P, w, K, mg, base, N, qual, defScope st, f, cdv, A, outer, n0, pn⟩ →
      GSts ⟨P, w, K, mg, base, N, qual, defScope st, f, cdv, A, outer, n0, pn⟩ (defBody st) (body n)) :
    GFnD P w K mg base (k + 1) f fd ps (genD ps.length N.length body) := by
  obtain ⟨oc, od, dV, kV, doc, pm, an, cdv, ct, osl, rfl, lk, hcd⟩ := F.ex
  refine ⟨fun A outer s H args us vs ds W n hr e0 hb r rv hds => ?_⟩
  have hl : vs.length = ps.length := by rw [rv.length]; exact hds
  have KX : K.In s.heap := e0.mod.kin.keeps fun b o e => (e0.bs b o e).1
  have lim : s.heap.NoLimit := e0.mod.nolimit.keeps fun b o e => (e0.bs b o e).1
  have hkind : ∀ y ∈ ps.zip us, (defScope st).names.lookup y.1 = some .local ∨ ((defScope st).names.lookup y.1 = some .cell ∧ ((cellsFrom (s.heap.objs.size + 1) (defScope st).names []).lookup y.1).isSome = true) := fun ⟨n, v⟩ hy => by
    rcases S.par n (List.of_mem_zip hy).1 with q | q
    · exact .inl q
    · exact .inr ⟨q, PySem.W.cellsFrom_some _ _ _ (.inl q)⟩
  refine codeAny_call_generator hr.depth (KX _ _ lk) rfl S.co S.gen rfl (PySem.W.codeRec_of KX hcd) (hb _ _ _ _ ?_)
  refine wpAny_newFunctionEnv_cells S.kind hkind fun env he s1 x => ?_
  subst he
  have lim1 : s1.heap.NoLimit := lim.keeps x.toInCall.keep
  refine ⟨lim1, ?_⟩
  obtain ⟨h1, tk, es1, hk1⟩ := x.done
  have os1 : s1.os = s.os := by rw [es1]
  have gen1 : s1.gens = s.gens := by rw [es1]
  have lt1 : s.heap.objs.size < s1.heap.objs.size := x.toInCall.ns.lt
  have kp1 : ∀ b o, s.heap.get? b = some o → s1.heap.get? b = some o := x.toInCall.keep
  have I1 : Inv (gcxOf P w K mg base N qual (defScope st) f cdv A outer s H (fun _ _ _ => False) []) [] (L2.start N vs) H s1 := inv_startG S hr.hd e0 hl r x
  obtain ⟨mN, ⟨oL, esL, epL, hoL, rL⟩, hlk⟩ := I1.loc
  have hoL : s1.heap.get? s.heap.objs.size = some oL := hoL
  have nce : cellsFrom (s.heap.objs.size + 1) (defScope st).names [] = [] := cells_none _ _ _ hnc
  have main : ∀ (go : Obj) (nm qn : Value) (tk2 : Nat), go.cls = .type "generator" → go.data = .fields #[.int s1.gens.size 0, nm, qn] → go.slots = #[] → (∀ h : Heap, (h.push go).get? h.objs.size = some go) →
      GMadeD P w K mg base (k + 1) outer s W (genD ps.length N.length body n ds) (.ref s1.heap.objs.size) { s1 with gens := s1.gens.push (.fresh (.func (defBody st) (envOfC qual (defScope st) s.heap.objs.size f cdv))), toks := tk2, heap := s1.heap.push go } := by
    intro go nm qn tk2 hgc hgd0 hgs hgp
    have hgen : ∀ h : Heap, h.get? s1.heap.objs.size = some go → h.IsGen s1.heap.objs.size s1.gens.size := fun h e => ⟨go, nm, qn, e, hgc, hgd0, hgs⟩
    refine ⟨s1.heap.objs.size, s1.gens.size, _, N, qual, defScope st, f, cdv, go, [(s.heap.objs.size, oL), (s1.heap.objs.size, go)], rfl, Nat.le_of_lt lt1, Array.getElem?_push_size .., os1, AllBare.push (by rw [gen1]; exact e0.bare) rfl, fun b o e => Heap.get?_push_of_some _ (kp1 b o e), hgen, List.mem_cons_of_mem _ List.mem_cons_self, fun p hp => ?_, ?_⟩
    · rcases List.mem_cons.mp hp with z | z
      · subst z
        refine ⟨Heap.get?_push_of_some _ hoL, Nat.le_refl _, fun v e => ?_⟩
        rw [e] at rL; cases rL.1
      · rw [List.mem_singleton.mp z]
        exact ⟨hgp _, Nat.le_of_lt lt1, fun v e => by rw [hgd0] at e; cases e⟩
    · intro A' hr' hfr' hgu' s2 sb2 H2 W2 st2 lw ok2 R nk
      have ncell : NoCell ⟨P, w, K, mg, base, N, qual, defScope st, f, cdv, A', outer, s.heap.objs.size, [(s1.heap.objs.size, go)]⟩ := ⟨fun x c e => (by
        have e : (cellsFrom (s.heap.objs.size + 1) (defScope st).names []).lookup x = some c := e
        rw [nce] at e
        cases e), fun x => ⟨fun e => hnc _ (PySem.mem_of_lookup e) rfl, fun e => S.nofree _ (PySem.mem_of_lookup e) rfl⟩⟩
      have pinL := R.pins _ List.mem_cons_self
      have pinG := R.pins _ (List.mem_cons_of_mem _ List.mem_cons_self)
      have hout : s1.heap.objs.size ∉ frs outer := fun hm => by
        obtain ⟨_, o, ho, _⟩ := e0.funs.mem hm
        exact absurd (Nat.lt_trans (Heap.lt_size ho) lt1) (Nat.lt_irrefl _)
      show SegU _ _ _ _ _ _ _
      let i : Ix := ⟨sb2, H2, W2, genD ps.length N.length body n ds st2⟩
      let Z : Gs := ⟨P, w, K, mg, base, N, qual, defScope st, f, cdv, A', outer, s.heap.objs.size, [(s1.heap.objs.size, go)]⟩
      have I2 : Inv (gxi Z i) [] (L2.start N vs) H2 s2 := by
        refine ⟨⟨e0.mod, S.kind, rfl, rfl, Nat.le_of_eq R.size, fun y z c h1 h2 => (ncell.ce _ _ h1).elim, fun y hy => ?_, fun y c _ h => (ncell.ce _ _ h).elim, fun _ => hr'.hd, Around.frames_deeper hfr', .inr ⟨rfl, rfl⟩, fun b z => (nomatch z), R.bs, R.bsz, fun b o e z => (nomatch z), fun b z => (nomatch z), R.funs, R.frf⟩,
          R.os, R.bare, Un.kept R.sub, ?_, fun y c h => (ncell.ce _ _ h).elim, pinL.2, fun y c h => (ncell.ce _ _ h).elim, fun p hp => ?_, R.hok, I1.len⟩
        · rcases hy with hy | hy
          · exact absurd hy (ncell.ki y).1
          · exact absurd hy (ncell.ki y).2
        · refine ⟨mN, ⟨oL, esL, epL, pinL.1, rL⟩, fun j y v e1 e2 e3 => ?_⟩
          obtain ⟨u, ru, lk'⟩ := hlk j y v e1 e2 e3
          refine ⟨u, ru, ?_⟩
          rcases lk' with lk' | ⟨kd, _⟩
          · exact .inl lk'
          · rcases kd with z | z
            · exact absurd z (ncell.ki y).1
            · exact absurd z (ncell.ki y).2
        · have hp : p ∈ [(s1.heap.objs.size, go)] ++ ([] : List (Addr × Obj)) := hp
          rw [List.append_nil] at hp
          rw [List.mem_singleton.mp hp]
          exact ⟨pinG.1, pinG.2, Nat.ne_of_gt lt1, hout, fun v e => by rw [hgd0] at e; cases e⟩
      have a2 : At K (ctxI K i) W2 ⟨ds.map (fun d => some (SV.val d)) ++ List.replicate (N.length - ps.length) none, st2⟩ (L2.start N vs) H2 := at_start ok2 (rv.mono lw) hds hN
      have eτ : body n finK ⟨ds.map (fun d => some (SV.val d)) ++ List.replicate (N.length - ps.length) none, st2⟩ = i.τ := by
        show _ = genD ps.length N.length body n ds st2
        unfold genD
        rw [if_pos hds]
      refine segu_func ?_
      refine hbody cdv A' outer s.heap.objs.size [(s1.heap.objs.size, go)] n ?_ (hr'.deeper _) ncell i [] _ [] _ _ id id _ W2 s2 (L2.start N vs) H2 W2 _ ⟨over_func, rfl, rfl, rfl⟩ (fun p hp => ?_) ⟨fun i' fl f' s3 σ3 H3 W3 sg3 hf l3 lb3 I3 a3 e3 ns3 n03 => ?_, fun i' e s3 hx => ?_⟩ (Vw.Le.refl _) (Vw.Le.refl _) I2 a2 eτ nk R.size
      · first
          | exact hgu'
          | (show A'.guards = some []; exact hgu')
          | (rw [Around.deeper]; exact hgu')
      · have hp : p ∈ [(s1.heap.objs.size, go)] ++ ([] : List (Addr × Obj)) := hp
        rw [List.append_nil] at hp
        rw [List.mem_singleton.mp hp]
        exact Nat.le_of_lt lt1
      · cases fl with
        | nx =>
          cases f' with
          | next =>
            refine segu_end (.ok (.ret .none)) ?_
            show Wish Z i'.τ _ _ _ _ _
            rw [← e3]
            show Wish Z (Gt.fin sg3.sto) _ _ _ _ _
            exact ⟨_, rfl, .inl rfl, W3, H3, lb3, a3.ok, grow_at a3, land_inv I3⟩
          | _ => exact hf.elim
        | bk => exact absurd e3.symm ns3
        | ct => exact absurd e3.symm ns3
        | rt d => exact hf.elim
        | ro d => exact hf.elim
      · refine segu_wrap ?_
        rw [over_func]
        refine wpAny_mono (show wpAny (model P w) (A'.deeper Z.env) (leaving Z.env e) (fun _ s'' => CX P w outer i'.Hb i'.sb (exE K i') e s'' ∧ ∀ p ∈ Z.pn, s''.heap.get? p.1 = some p.2) (fun _ _ => False) s3 from hx) (fun _ s'' q => ?_) fun _ s'' q => q.elim
        obtain ⟨⟨a, B, H', cls, d, rfl, fl, hok, ub, na, os, ag, y, st', ey, q⟩, hp⟩ := q
        refine segu_end (.error _) ?_
        show Wish Z i'.τ _ _ _ _ _
        rw [ey]
        exact ⟨_, rfl, ⟨a, B, H', cls, d, rfl, fl, hok, ub, na, os, ag, q⟩, hp⟩
  exact main _ _ _ _ rfl rfl rfl fun h => Heap.get?_push_size _ rfl
end Gn
set_option maxHeartbeats 2000000
/-! Gn8: generators made by calls. -/
namespace Gn
open PySem PySem.Spec PyProof.Rows GenW L2 Dn
/-- a generator def and how it is called -/
structure GEnt (P : Program) (w : World) (K : PySem.W.Frag) (mg : Str → Option Value) (base : Heap) (j : Nat) (g : Addr) (np n : Nat) (ks : List Str) (m : GFun) : Prop where
  ex : ∃ fd ps, ps.length = np ∧ GFnD P w K mg base j g fd ps m ∧ KB K fd ps n ks
section
variable {X : Cx} {Y : WX} {C : Dn.Ctx} {pins : List (Addr × Obj)} {σ : L2.St} {H : Hp} {s : Shared} {W : Vw} {sg : S} {j k np i : Nat} {f : Addr} {fd : FuncData} {ps ks : List Str} {m : GFun} {x mn : Str} {p pos apos : Pos} {e o : Expr} {es : List Expr} {kws : List Keyword} {ca cb : M (List PV)} {co : M PV}
theorem run_gen {us zs : List Value} {kw : List (Str × Value)} {vs : List V} {ds : List PV} {E : Value → Shared → Prop} (n : Nat) (G : GFnD X.prog X.w X.K X.mg X.base j f fd ps m) (hgd : X.A.guards = some []) (hr : Room (j + 1) X.A) (I : Inv X pins σ H s) (hb : BindsTo s fd ⟨us, kw⟩ (ps.zip zs)) (r : Vals vs zs) (rep : Reps X.K W vs ds) (hl : ds.length = ps.length) :
    wpAny (model X.prog X.w) X.A (call (.ref f) us kw) (fun u s1 => Inv X pins σ H s1 ∧ Here X pins u W H s1 (m n ds)) E s := by
  refine wpAny_call (codeAny_mono (G.run X.A X.stack s H ⟨us, kw⟩ zs vs ds W n hr I.env0 hb r rep hl) fun res s' hq => ?_)
  match res, hq with
  | .error e, hq => exact hq.elim
  | .ok .next, hq => exact hq.elim
  | .ok .brk, hq => exact hq.elim
  | .ok .cont, hq => exact hq.elim
  | .ok (.ret u), ⟨a, g, c, N, qual, scope, f, cd, go, pl, h1, h2, h3, h4, h5, h6, h7, h8, h9, h10⟩ =>
    have I1 : Inv X pins σ H s' := I.call' (ch := []) h4 (Un.kept h6) (I.hok.kept h6) h5 fun _ z => nomatch z
    refine ⟨I1, a, g, N, qual, scope, f, cd, s.heap.objs.size, [(a, go)], pl, _, h1, ⟨⟨I.sz, I.lt, fun x c e => ?_, fun p hp => Heap.lt_size (I.pin p hp).1⟩, h2, h3, fun h hp => h7 h (hp (a, go) List.mem_cons_self), fun p hp => ?_, fun p hp => ?_, ?_⟩⟩
    · obtain ⟨v, q⟩ := I.cell x c e
      exact q.lt
    · rw [List.mem_singleton.mp hp]; exact h8
    · obtain ⟨q1, q2, q3⟩ := h9 p hp
      exact ⟨q1, I.hok.fresh q2, q2, q3⟩
    · refine h10 X.A.in1 hr.in1 ?_ ?_
      · exact I.ok.frames
      · exact hgd
/-- the classes' generator defs of that name -/
structure GTab (P : Program) (w : World) (K : PySem.W.Frag) (mg : Str → Option Value) (base : Heap) (j : Nat) (mn : Str) (np n : Nat) (ks : List Str) (tab : List (Str × GFun)) : Prop where
  ok : ∀ c mf, tab.lookup c = some mf → ∃ C g, ClsAt K c C ∧ Cls K C ∧ Meth K C mn g ∧ GEnt P w K mg base j g np n ks mf
def gmethM (tab : List (Str × GFun)) (np n : Nat) (m : Str) (co : M PV) (r : M (List PV)) : M (List MO → Gt) := bnd co fun d s => match insOf s d with
  | some (c, ks, vs) => if (ks.zip vs).lookup m = none then (match tab.lookup c with
    | some f => bnd r (fun ds => if (d :: ds).length = np then ret (f n (d :: ds)) else stuck) s
    | none => .stk) else .stk
  | none => .stk
theorem giter_meth {tab : List (Str × GFun)} {pl : Sem Bool} (n : Nat) (T : GTab X.prog X.w X.K X.mg X.base j mn np (i + 1) ks tab) (hgd : X.A.guards = some []) (hr : Room (j + 1) X.A) (ho : PE X o (den X.K Y co)) (ha : PA X (e :: es) (denA X.K Y ca)) (hkw : PK X kws (denA X.K Y cb))
    (hall : (backToKw pos (keywordEach kws X.env)).all (·.1.isSome) = true := by rfl) (hks : (backToKw pos (keywordEach kws X.env)).filterMap (·.1) = ks := by rfl)
    (hst : starEach (e :: es) X.env = (false, eval e X.env) :: starEach es X.env := by rfl)
    (ht : eval (.Call (.Attribute o mn apos) (e :: es) kws pos) X.env = (do
      let ov ← eval o X.env
      standAt apos.atName
      let (f, first) ← holding [ov] (getMethod ov mn pl)
      callWith pos f first (backTo pos (starEach (e :: es) X.env)) (backToKw pos (keywordEach kws X.env))) := by rfl) :
    GIter X Y (.Call (.Attribute o mn apos) (e :: es) kws pos) (gmethM tab np n mn co (appA i ks.length ca cb)) := by
  refine ⟨fun pins s σ H C W sg Q I at' p => ?_⟩
  refine PySem.W.methodCall_KW (pl := pl) (thn (ho.run pins s σ H (fun v H1 => ∃ d s1 W1, W.Le W1 ∧ At X.K (C.wi Y) W1 s1 σ H1 ∧ Rep X.K W1 v d ∧ Pst X.K (C.wi Y) W1 σ ((fun d s => match insOf s d with
  | some (c, kk, vv) => if (kk.zip vv).lookup mn = none then (match tab.lookup c with
    | some f => bnd (appA i ks.length ca cb) (fun ds => if (d :: ds).length = np then ret (f n (d :: ds)) else stuck) s
    | none => .stk) else .stk
  | none => .stk) d s1) Q) I ⟨C, W, sg, at', (Pst.bnd p).imp fun d s1 W1 H1 l1 at1 p1 v rv => ⟨d, s1, W1, l1, at1, rv, p1⟩⟩) ?_) ht
  rintro u s1 ⟨v, H1, I1, rv, d, sg1, W1, l1, a1, rd, p1⟩
  dsimp only at p1
  split at p1
  · rename_i c kk vv ei
    split at p1
    · rename_i hno
      split at p1
      · rename_i mf hmf
        obtain ⟨a, Cc, dx, us, rfl, h1, h2, l, ru⟩ := insOf_rep a1 rd ei
        obtain ⟨C2, g, k1, k2, k3, F⟩ := T.ok c mf hmf
        cases cls_uniq h1 k1
        obtain rfl : u = Value.ref a := rv
        obtain ⟨fd, ps, hnp, G, hb⟩ := F.ex
        have q0 := den_appA (QL := fun us ws H2 => us.length = i ∧ ws.length = ks.length ∧ ∃ ds W2 sg2, W1.Le W2 ∧ At X.K (C.wi Y) W2 sg2 σ H2 ∧ Reps X.K W2 (V.ref a :: (us ++ ws)) ds ∧ ds.length = ps.length ∧ Q (mf n ds) sg2 W2 H2) a1 p1 fun ds es s2 W2 H2 l2 a2 p2 us ws r1 r2 l1 l2' => by
          refine ⟨l1, l2', d :: (ds ++ es), W2, s2, l2, a2, .cons (rd.mono l2) (r1.append r2), ?_⟩
          by_cases hc : (d :: (ds ++ es)).length = np
          · rw [if_pos hc] at p2
            exact ⟨hc.trans hnp.symm, p2 W2 H2 (Vw.Le.refl _) a2⟩
          · rw [if_neg hc] at p2
            exact p2.elim
        refine getmeth_ok I1 h2 k2 k3 (zip_none ru l hno) ?_
        refine callWith_KA (first := [.ref a]) k3.kp hall (thn (ha.run pos pins s1 σ H1 _ I1 q0) ?_) hst
        rintro us s2 ⟨vs, H2, I2, r, q2⟩
        refine thn (hkw.run pos pins s2 σ H2 _ I2 q2) ?_
        rintro ws s3 ⟨zs, H3, I3, rz, e1, e2, ds, W2, sg2, lw, a2, rep, hl, q3⟩
        rw [hks]
        have ln : (Value.ref a :: us).length = i + 1 := by rw [List.length_cons, ← r.length, e1]
        have r' : Vals (V.ref a :: vs) (Value.ref a :: us) := .cons rfl r
        exact ⟨I3.kIn, thn (run_gen n G hgd hr I3 (hb.to s3 (Value.ref a :: us) ws I3.kIn ln (rz.length.symm.trans e2)) (hb.rel r' rz) rep hl) fun u s4 ⟨I4, h4⟩ => ⟨_, _, _, _, l1.trans lw, I4, a2, h4, q3⟩⟩
      · exact p1.elim
    · exact p1.elim
  · exact p1.elim
end
end Gn
set_option maxHeartbeats 2000000
/-! Gn9: rows of generator defs; the rules in short. -/
namespace Gn
open PySem PySem.Spec PyProof.Rows GenW L2 Dn
abbrev GPr (P : Program) (w : World) (K : PySem.W.Frag) (mg : Str → Option Value) (base : Heap) (j : Nat) (x qual : Str) (st : Stmt) (ps : List Str) (m : GFun) : Prop := ∀ f fd, Dn.Fun K x qual st f fd → GFnD P w K mg base j f fd ps m
section
variable {P : Program} {w : World} {K : PySem.W.Frag} {mg : Str → Option Value} {base : Heap} {j k n np nn : Nat} {x c mn qual : Str} {st : Stmt} {N ps ks : List Str} {body : Nat → GM} {m : GFun}
theorem gpr_mk (S : GScope N ps (defScope st)) (hN : ps.length ≤ N.length) (hnc : ∀ y ∈ (defScope st).names, y.2 ≠ .cell)
    (h : ∀ (f : Addr) (cdv : Value) (A : Around) (outer : List PySem.Env) (n0 : Nat) (pn : List (Addr × Obj)) (n : Nat), (A.deeper (envOfC qual (defScope st) n0 f cdv)).guards = some [] → Room k (A.deeper (envOfC qual (defScope st) n0 f cdv)) → NoCell ⟨P, w, K, mg, base, N, qual, defScope st, f, cdv, A, outer, n0, pn⟩ →
      GSts ⟨P, w, K, mg, base, N, qual, defScope st, f, cdv, A, outer, n0, pn⟩ (defBody st) (body n)) :
    GPr P w K mg base (k + 1) x qual st ps (genD ps.length N.length body) := fun f fd F => gfn_den F S hN hnc fun cdv A outer n0 pn n => h f cdv A outer n0 pn n
theorem gent_row (G : GPr P w K mg base j x qual st ps (genD np nn body)) {g : Addr} {fd : FuncData} (F : Dn.Fun K x qual st g fd) (hb : KB K fd ps n ks) (e : ps.length = np) : GEnt P w K mg base j g np n ks (genD np nn body) := ⟨⟨fd, ps, e, G g fd F, hb⟩⟩
abbrev GMRow (P : Program) (w : World) (K : PySem.W.Frag) (mg : Str → Option Value) (base : Heap) (j : Nat) (m : Str) (np n : Nat) (ks : List Str) (c : Str) (mf : GFun) : Prop := ∃ C g, ClsAt K c C ∧ Cls K C ∧ Meth K C m g ∧ GEnt P w K mg base j g np n ks mf
theorem gent_up {g : Addr} {j' : Nat} (G : GEnt P w K mg base j g np n ks m) (h : j ≤ j') : GEnt P w K mg base j' g np n ks m := by
  obtain ⟨fd, ps, e, F, hb⟩ := G.ex
  exact ⟨⟨fd, ps, e, F.mono h, hb⟩⟩
theorem gmrow (G : GPr P w K mg base j mn qual st ps (genD np nn body)) (Z : MthP K c mn qual st ps n ks) {j' : Nat} (hk : j ≤ j') (e : ps.length = np) : GMRow P w K mg base j' mn np n ks c (genD np nn body) := by
  obtain ⟨C, g, fd, h1, h2, h3, F, hb⟩ := Z
  exact ⟨C, g, h1, h2, h3, gent_up (gent_row G F hb e) hk⟩
theorem gtab0 : GTab P w K mg base j mn np n ks [] := ⟨fun c mf h => by cases h⟩
theorem gtabC {mf : GFun} {tab : List (Str × GFun)} (h : GMRow P w K mg base j mn np n ks c mf) (t : GTab P w K mg base j mn np n ks tab) : GTab P w K mg base j mn np n ks ((c, mf) :: tab) := ⟨fun c' mf' l => by
  rcases look_cons l with ⟨rfl, rfl⟩ | l
  · exact h
  · exact t.ok _ _ l⟩
theorem ns0 : NoStops K [] := fun c h => nomatch h
theorem nsC {C : Addr} {cs : List Str} (a : PySem.W.nsIn K mainGlobals c = some (some (.ref C))) (h : PySem.W.subIn K (.ref C) (.type "StopIteration") = some false) (t : NoStops K cs) : NoStops K (c :: cs) := fun d hd D hD => by
  rcases List.mem_cons.mp hd with z | z
  · subst z
    have e : some (some (Value.ref C)) = some (some (Value.ref D)) := a.symm.trans hD
    cases e
    exact h
  · exact t d z D hD
end
section
variable {X : Cx} {Y : WX} {j k np i : Nat} {ks cs : List Str} {m : GFun} {x mn : Str} {p pos apos : Pos} {e o : Expr} {es : List Expr} {kws : List Keyword} {ca cb : M (List PV)} {co : M PV}
/-- o.g(e, .., k = v, ..) -/
theorem gimeth {tab : List (Str × GFun)} {pl : Sem Bool} (n : Nat) (T : GTab X.prog X.w X.K X.mg X.base j mn np (i + 1) ks tab) (hgd : X.A.guards = some []) (hr : Room k X.A) (hjk : j + 1 ≤ k) (ho : PE X o (den X.K Y co)) (ha : PA X (e :: es) (denA X.K Y ca)) (hkw : PK X kws (denA X.K Y cb))
    (hall : (backToKw pos (keywordEach kws X.env)).all (·.1.isSome) = true := by rfl) (hks : (backToKw pos (keywordEach kws X.env)).filterMap (·.1) = ks := by rfl)
    (hst : starEach (e :: es) X.env = (false, eval e X.env) :: starEach es X.env := by rfl)
    (ht : eval (.Call (.Attribute o mn apos) (e :: es) kws pos) X.env = (do
      let ov ← eval o X.env
      standAt apos.atName
      let (f, first) ← holding [ov] (getMethod ov mn pl)
      callWith pos f first (backTo pos (starEach (e :: es) X.env)) (backToKw pos (keywordEach kws X.env))) := by rfl) :
    GIter X Y (.Call (.Attribute o mn apos) (e :: es) kws pos) (gmethM tab np n mn co (appA i ks.length ca cb)) := giter_meth n T hgd (hr.mono hjk) ho ha hkw hall hks hst ht
theorem sforG (n : Nat) {te iter : Expr} {body : List Stmt} {gt : TG} {tg : Tgt} {cg : M (List MO → Gt)} {fa : M Fl} (hp : PassesOwn (model X.prog X.w) X.A X.env X.xe) (hc : X.calm = true) (hr : Room k X.A) (tk : Takes X Y) (xg : XG X) (ns : NoStops X.K cs)
    (hi : GIter X Y iter cg) (hg : PG X te gt) (ht : TgOk X.K gt tg) (hb : PSs X body (denS X.K Y fa)) (hs : ∀ x, foldedSetIterable iter X.env x = pure x := by intro _; rfl) : PS X (.For te iter body [] pos) (denS X.K Y (genFor cs cg tg n fa)) := ps_forG n hp hc hr tk xg ns hi hg ht hb hs
end
end Gn
/-! Pl: plain reasoning about computations: what an answer is like. -/
namespace Dn
open PySem
section
variable {α β : Type} {s : S} {env : Env} {st : List MO} {Q : α → S → Prop} {QB : β → S → Prop} {c : M α} {i j k : Nat} {ca cb cd : M PV} {fa fb : M Fl} {E : PV → S → Prop} {EF : PV → List MO → Prop}
/-- c answers, and Q holds of the answer and the state behind it; or an exception comes, and E holds of it -/
def Okx (E : PV → S → Prop) (c : M α) (s : S) (Q : α → S → Prop) : Prop := match c s with
  | .ok a s' => Q a s'
  | .exc e s' => E e s'
  | .stk => False
/-- c answers -/
abbrev Ok (c : M α) (s : S) (Q : α → S → Prop) : Prop := Okx (fun _ _ => False) c s Q
theorem Okx.two (h : Okx E c s Q) : (∃ a s', c s = .ok a s' ∧ Q a s') ∨ ∃ e s', c s = .exc e s' ∧ E e s' := by
  unfold Okx at h
  cases e : c s with
  | ok a s' => rw [e] at h; exact .inl ⟨a, s', rfl, h⟩
  | exc e' s' => rw [e] at h; exact .inr ⟨e', s', rfl, h⟩
  | stk => rw [e] at h; exact h.elim
theorem Okx.ofx {e : PV} {s' : S} (z : c s = .exc e s') (h : E e s') : Okx E c s Q := by unfold Okx; rw [z]; exact h
theorem Okx.ex (h : Ok c s Q) : ∃ a s', c s = .ok a s' ∧ Q a s' := by
  rcases h.two with h | ⟨_, _, _, h⟩
  · exact h
  · exact h.elim
theorem Okx.of {a : α} {s' : S} (e : c s = .ok a s') (h : Q a s') : Okx E c s Q := by unfold Okx; rw [e]; exact h
theorem Okx.imp {Q' : α → S → Prop} (h : Okx E c s Q) (f : ∀ a s', Q a s' → Q' a s') : Okx E c s Q' := by
  rcases h.two with ⟨a, s', e, q⟩ | ⟨e, s', z, q⟩
  · exact Okx.of e (f a s' q)
  · exact Okx.ofx z q
theorem Okx.impx {E' : PV → S → Prop} {Q' : α → S → Prop} (h : Okx E c s Q) (f : ∀ a s', Q a s' → Q' a s') (g : ∀ e s', E e s' → E' e s') : Okx E' c s Q' := by
  rcases h.two with ⟨a, s', e, q⟩ | ⟨e, s', z, q⟩
  · exact Okx.of e (f a s' q)
  · exact Okx.ofx z (g e s' q)
theorem Ok.up (h : Ok c s Q) : Okx E c s Q := h.impx (fun _ _ q => q) fun _ _ q => q.elim
theorem ok_ret {a : α} : Okx E (ret a) s Q ↔ Q a s := Iff.rfl
theorem ok_bnd {f : α → M β} : Okx E (bnd c f) s QB ↔ Okx E c s (fun a s' => Okx E (f a) s' QB) := by
  unfold Okx bnd
  cases c s <;> exact Iff.rfl
theorem ok_lft {o : Option α} : Okx E (lft o) s Q ↔ ∃ a, o = some a ∧ Q a s := by
  unfold Okx lft
  cases o with
  | none => exact ⟨fun h => h.elim, fun ⟨_, h, _⟩ => nomatch h⟩
  | some a => exact ⟨fun h => ⟨a, rfl, h⟩, fun ⟨_, h, q⟩ => by cases h; exact q⟩
theorem ok_ite {p : Prop} [Decidable p] {c d : M α} : Okx E (if p then c else d) s Q ↔ if p then Okx E c s Q else Okx E d s Q := by
  split <;> exact Iff.rfl
def varK (i : Nat) (env : Env) (st : List MO) (Q : PV → S → Prop) : Option (Option SV) → Prop
  | some (some (.val d)) => Q d ⟨env, st⟩
  | some (some (.own xs)) => Q (.lst xs) ⟨env.set i (some (.val (.lst xs))), st⟩
  | _ => False
theorem ok_var {Q : PV → S → Prop} : Okx E (var i) ⟨env, st⟩ Q ↔ varK i env st Q env[i]? := by
  unfold Okx var varK
  dsimp only
  rcases env[i]? with _ | _ | sv
  · exact Iff.rfl
  · exact Iff.rfl
  · cases sv <;> exact Iff.rfl
theorem varK_val {Q : PV → S → Prop} {d : PV} : varK i env st Q (some (some (.val d))) ↔ Q d ⟨env, st⟩ := Iff.rfl
theorem varK_own {Q : PV → S → Prop} {xs : List PV} : varK i env st Q (some (some (.own xs))) ↔ Q (.lst xs) ⟨env.set i (some (.val (.lst xs))), st⟩ := Iff.rfl
theorem pv_val {d : PV} : (SV.val d).pv = d := rfl
theorem pv_own {xs : List PV} : (SV.own xs).pv = .lst xs := rfl
theorem ok_bin {op : PV → PV → M PV} {Q : PV → S → Prop} : Okx E (bin ca cb op) s Q ↔ Okx E ca s (fun a s' => Okx E cb s' (fun b s2 => Okx E (op a b) s2 Q)) := by
  unfold bin
  rw [ok_bnd]
  exact ⟨fun h => h.imp fun a s' q => ok_bnd.mp q, fun h => h.imp fun a s' q => ok_bnd.mpr q⟩
def asBK (s : S) (Q : Bool → S → Prop) : PV → Prop
  | .bl b => Q b s
  | _ => False
theorem ok_asB {Q : Bool → S → Prop} : Okx E (asB ca) s Q ↔ Okx E ca s (fun d s' => asBK s' Q d) := by
  unfold asB
  rw [ok_bnd]
  refine ⟨fun h => h.imp fun a s' q => ?_, fun h => h.imp fun a s' q => ?_⟩ <;> cases a <;> exact q
theorem asBK_bl {Q : Bool → S → Prop} {b : Bool} : asBK s Q (.bl b) ↔ Q b s := Iff.rfl
theorem ok_andT {a b : M Bool} {Q : Bool → S → Prop} : Okx E (andT a b) s Q ↔ Okx E a s (fun x s' => if x = true then Okx E b s' Q else Q false s') := by
  unfold andT
  rw [ok_bnd]
  refine ⟨fun h => h.imp fun a s' q => ?_, fun h => h.imp fun a s' q => ?_⟩ <;> cases a <;> exact q
theorem ok_orT {a b : M Bool} {Q : Bool → S → Prop} : Okx E (orT a b) s Q ↔ Okx E a s (fun x s' => if x = true then Q true s' else Okx E b s' Q) := by
  unfold orT
  rw [ok_bnd]
  refine ⟨fun h => h.imp fun a s' q => ?_, fun h => h.imp fun a s' q => ?_⟩ <;> cases a <;> exact q
theorem ok_notT {a : M Bool} {Q : Bool → S → Prop} : Okx E (notT a) s Q ↔ Okx E a s (fun x s' => Q (!x) s') := by
  unfold notT
  rw [ok_bnd]
  exact Iff.rfl
theorem ok_iteT {t : M Bool} {Q : PV → S → Prop} : Okx E (iteT t ca cb) s Q ↔ Okx E t s (fun x s' => if x = true then Okx E ca s' Q else Okx E cb s' Q) := by
  unfold iteT
  rw [ok_bnd]
  refine ⟨fun h => h.imp fun a s' q => ?_, fun h => h.imp fun a s' q => ?_⟩ <;> cases a <;> exact q
def blK (s : S) (Q : Bool → Prop) : PV → Prop
  | .bl b => Q b
  | _ => False
theorem blK_bl {Q : Bool → Prop} {b : Bool} : blK s Q (.bl b) ↔ Q b := Iff.rfl
theorem ok_andV {Q : PV → S → Prop} : Okx E (andV ca cb) s Q ↔ Okx E ca s (fun d s' => blK s' (fun x => if x = true then Okx E cb s' Q else Q (.bl false) s') d) := by
  unfold andV
  rw [ok_bnd]
  refine ⟨fun h => h.imp fun a s' q => ?_, fun h => h.imp fun a s' q => ?_⟩ <;> cases a <;> first | exact q | (rename_i b; cases b <;> exact q)
theorem ok_notV {Q : PV → S → Prop} : Okx E (notV ca) s Q ↔ Okx E ca s (fun d s' => blK s' (fun x => Q (.bl (!x)) s') d) := by
  unfold notV
  rw [ok_bnd]
  refine ⟨fun h => h.imp fun a s' q => ?_, fun h => h.imp fun a s' q => ?_⟩ <;> cases a <;> exact q
/-! ### arguments, displays -/
theorem ok_argN {Q : List PV → S → Prop} : Okx E argN s Q ↔ Q [] s := Iff.rfl
theorem ok_argC {r : M (List PV)} {Q : List PV → S → Prop} : Okx E (argC ca r) s Q ↔ Okx E ca s (fun d s' => Okx E r s' (fun ds s2 => Q (d :: ds) s2)) := by
  unfold argC
  rw [ok_bnd]
  exact ⟨fun h => h.imp fun a s' q => ok_bnd.mp q, fun h => h.imp fun a s' q => ok_bnd.mpr q⟩
theorem ok_fits {r : M (List PV)} {Q : List PV → S → Prop} : Okx E (fits r) s Q ↔ Okx E r s (fun ds s' => ds.length ≤ sizeLine ∧ Q ds s') := by
  unfold fits
  rw [ok_bnd]
  refine ⟨fun h => h.imp fun a s' q => ?_, fun h => h.imp fun a s' q => ?_⟩
  · rw [ok_ite] at q
    split at q
    · exact ⟨by assumption, q⟩
    · exact q.elim
  · rw [ok_ite, if_pos q.1]
    exact q.2
theorem ok_tupM {r : M (List PV)} {Q : PV → S → Prop} : Okx E (tupM r) s Q ↔ Okx E r s (fun ds s' => ds.length ≤ sizeLine ∧ Q (.tup ds) s') := by
  unfold tupM
  rw [ok_bnd, ok_fits]
  exact Iff.rfl
theorem ok_lstM {r : M (List PV)} {Q : PV → S → Prop} : Okx E (lstM r) s Q ↔ Okx E r s (fun ds s' => Q (.lst ds) s') := by
  unfold lstM
  rw [ok_bnd]
  exact Iff.rfl
theorem ok_parN {Q : Option Int → S → Prop} : Okx E parN s Q ↔ Q none s := Iff.rfl
def intK (s : S) (Q : Int → Prop) : PV → Prop
  | .int b => Q b
  | _ => False
theorem intK_int {Q : Int → Prop} {b : Int} : intK s Q (.int b) ↔ Q b := Iff.rfl
theorem ok_parS {Q : Option Int → S → Prop} : Okx E (parS ca) s Q ↔ Okx E ca s (fun d s' => intK s' (fun i => Q (some i) s') d) := by
  unfold parS
  rw [ok_bnd]
  refine ⟨fun h => h.imp fun a s' q => ?_, fun h => h.imp fun a s' q => ?_⟩ <;> cases a <;> exact q
theorem ok_slM {lo hi : M (Option Int)} {Q : PV → S → Prop} : Okx E (slM ca lo hi) s Q ↔ Okx E ca s (fun d s1 => Okx E lo s1 (fun a s2 => Okx E hi s2 (fun b s3 => ∃ x, slP d a b = some x ∧ Q x s3))) := by
  unfold slM
  rw [ok_bnd]
  exact ⟨fun h => h.imp fun a s' q => (ok_bnd.mp q).imp fun b s2 q => (ok_bnd.mp q).imp fun c s3 q => ok_lft.mp q, fun h => h.imp fun a s' q => ok_bnd.mpr (q.imp fun b s2 q => ok_bnd.mpr (q.imp fun c s3 q => ok_lft.mpr q))⟩
def lstK (Q : List PV → Prop) : PV → Prop
  | .lst b => Q b
  | _ => False
theorem lstK_lst {Q : List PV → Prop} {b : List PV} : lstK Q (.lst b) ↔ Q b := Iff.rfl
def strK (Q : Str → Prop) : PV → Prop
  | .str b => Q b
  | _ => False
theorem strK_str {Q : Str → Prop} {b : Str} : strK Q (.str b) ↔ Q b := Iff.rfl
theorem ok_joinM {Q : PV → S → Prop} : Okx E (joinM ca cb) s Q ↔ Okx E ca s (fun d s' => strK (fun x => Okx E cb s' (fun b s2 => ∃ y, joinP x b = some y ∧ Q y s2)) d) := by
  unfold joinM
  rw [ok_bnd]
  refine ⟨fun h => h.imp fun a s' q => ?_, fun h => h.imp fun a s' q => ?_⟩
  · cases a <;> first | exact q | exact (ok_bnd.mp q).imp fun b s2 q => ok_lft.mp q
  · cases a <;> first | exact q | exact ok_bnd.mpr (Okx.imp q fun b s2 q => ok_lft.mpr q)
theorem ok_itemsM {Q : List PV → S → Prop} : Okx E (itemsM ca) s Q ↔ Okx E ca s (fun d s' => ∃ xs, itemsP d = some xs ∧ Q xs s') := by
  unfold itemsM
  rw [ok_bnd]
  exact ⟨fun h => h.imp fun a s' q => ok_lft.mp q, fun h => h.imp fun a s' q => ok_lft.mpr q⟩
theorem ok_rngM {Q : List PV → S → Prop} : Okx E (rngM ca) s Q ↔ Okx E ca s (fun d s' => ∃ xs, rngP d = some xs ∧ Q xs s') := by
  unfold rngM
  rw [ok_bnd]
  exact ⟨fun h => h.imp fun a s' q => ok_lft.mp q, fun h => h.imp fun a s' q => ok_lft.mpr q⟩
/-! ### statements -/
def seqK (E : PV → S → Prop) (b : M Fl) (s : S) (Q : Fl → S → Prop) : Fl → Prop
  | .nx => Okx E b s Q
  | fl => Q fl s
theorem ok_seqM {Q : Fl → S → Prop} : Okx E (seqM fa fb) s Q ↔ Okx E fa s (fun fl s' => seqK E fb s' Q fl) := by
  unfold Okx seqM
  cases fa s with
  | ok fl s' => cases fl <;> exact Iff.rfl
  | exc => exact Iff.rfl
  | stk => exact Iff.rfl
theorem seqK_nx {Q : Fl → S → Prop} : seqK E fb s Q .nx ↔ Okx E fb s Q := Iff.rfl
theorem seqK_ro {Q : Fl → S → Prop} {d : List PV} : seqK E fb s Q (.ro d) ↔ Q (.ro d) s := Iff.rfl
theorem seqK_rt {Q : Fl → S → Prop} {d : PV} : seqK E fb s Q (.rt d) ↔ Q (.rt d) s := Iff.rfl
theorem seqK_bk {Q : Fl → S → Prop} : seqK E fb s Q .bk ↔ Q .bk s := Iff.rfl
theorem seqK_ct {Q : Fl → S → Prop} : seqK E fb s Q .ct ↔ Q .ct s := Iff.rfl
theorem ok_ifM {t : M Bool} {Q : Fl → S → Prop} : Okx E (ifM t fa fb) s Q ↔ Okx E t s (fun x s' => if x = true then Okx E fa s' Q else Okx E fb s' Q) := by
  unfold ifM
  rw [ok_bnd]
  refine ⟨fun h => h.imp fun a s' q => ?_, fun h => h.imp fun a s' q => ?_⟩ <;> cases a <;> exact q
theorem ok_retM {Q : Fl → S → Prop} : Okx E (retM ca) s Q ↔ Okx E ca s (fun d s' => Q (.rt d) s') := by unfold retM; rw [ok_bnd]; exact Iff.rfl
theorem ok_dropM {Q : Fl → S → Prop} : Okx E (dropM ca) s Q ↔ Okx E ca s (fun _ s' => Q .nx s') := by unfold dropM; rw [ok_bnd]; exact Iff.rfl
theorem ok_skipM {Q : Fl → S → Prop} : Okx E skipM s Q ↔ Q .nx s := Iff.rfl
theorem ok_asgM {Q : Fl → S → Prop} : Okx E (asgM i ca) s Q ↔ Okx E ca s (fun d s' => Q .nx ⟨s'.env.set i (some (.val d)), s'.sto⟩) := by unfold asgM; rw [ok_bnd]; exact Iff.rfl
theorem ok_par2 {Q : Fl → S → Prop} : Okx E (par2 i j ca cb) s Q ↔ Okx E ca s (fun a s1 => Okx E cb s1 (fun b s2 => Q .nx ⟨(s2.env.set i (some (.val a))).set j (some (.val b)), s2.sto⟩)) := by
  unfold par2
  rw [ok_bnd]
  exact ⟨fun h => h.imp fun a s' q => ok_bnd.mp q, fun h => h.imp fun a s' q => ok_bnd.mpr q⟩
theorem ok_par2VO {r : M (List PV)} {Q : Fl → S → Prop} : Okx E (par2VO i j ca r) s Q ↔ Okx E ca s (fun a s1 => Okx E r s1 (fun b s2 => Q .nx ⟨(s2.env.set i (some (.val a))).set j (some (.own b)), s2.sto⟩)) := by
  unfold par2VO
  rw [ok_bnd]
  exact ⟨fun h => h.imp fun a s' q => ok_bnd.mp q, fun h => h.imp fun a s' q => ok_bnd.mpr q⟩
theorem ok_par3 {Q : Fl → S → Prop} : Okx E (par3 i j k ca cb cd) s Q ↔ Okx E ca s (fun a s1 => Okx E cb s1 (fun b s2 => Okx E cd s2 (fun d s3 => Q .nx ⟨((s3.env.set i (some (.val a))).set j (some (.val b))).set k (some (.val d)), s3.sto⟩))) := by
  unfold par3
  rw [ok_bnd]
  exact ⟨fun h => h.imp fun a s' q => (ok_bnd.mp q).imp fun b s2 q => ok_bnd.mp q, fun h => h.imp fun a s' q => ok_bnd.mpr (q.imp fun b s2 q => ok_bnd.mpr q)⟩
/-! ### calls, functions -/
def OkFx (E : PV → List MO → Prop) (r : RR) (Q : PV → List MO → Prop) : Prop := match r with
  | .ok d st => Q d st
  | .exc e st => E e st
  | .stk => False
abbrev OkF (r : RR) (Q : PV → List MO → Prop) : Prop := OkFx (fun _ _ => False) r Q
theorem OkFx.ex {r : RR} {Q : PV → List MO → Prop} (h : OkF r Q) : ∃ d st, r = .ok d st ∧ Q d st := by
  cases r with
  | ok d st => exact ⟨d, st, rfl, h⟩
  | exc => exact h.elim
  | stk => exact h.elim
theorem OkFx.imp {r : RR} {Q Q' : PV → List MO → Prop} (h : OkFx EF r Q) (f : ∀ d st, Q d st → Q' d st) : OkFx EF r Q' := by
  cases r with
  | ok d st => exact f d st h
  | exc => exact h
  | stk => exact h
theorem OkFx.impx {r : RR} {E' Q Q' : PV → List MO → Prop} (h : OkFx EF r Q) (f : ∀ d st, Q d st → Q' d st) (g : ∀ e st, EF e st → E' e st) : OkFx E' r Q' := by
  cases r with
  | ok d st => exact f d st h
  | exc e st => exact g e st h
  | stk => exact h
theorem OkF.up {r : RR} {Q : PV → List MO → Prop} (h : OkF r Q) : OkFx EF r Q := h.impx (fun _ _ q => q) fun _ _ q => q.elim
theorem ok_callM {m : Fn} {n : Nat} {r : M (List PV)} {Q : PV → S → Prop} : Okx E (callM m n r) s Q ↔ Okx E r s (fun ds s' => OkFx (fun e st => E e ⟨s'.env, st⟩) (m n ds s'.sto) (fun d st => Q d ⟨s'.env, st⟩)) := by
  unfold callM
  rw [ok_bnd]
  have key : ∀ (ds : List PV) (s' : S), Okx E (fun s : S => match m n ds s.sto with
      | .ok d st' => Res.ok d { s with sto := st' }
      | .exc e st' => .exc e { s with sto := st' }
      | .stk => .stk) s' Q ↔ OkFx (fun e st => E e ⟨s'.env, st⟩) (m n ds s'.sto) (fun d st => Q d ⟨s'.env, st⟩) := fun ds s' => by
    unfold Okx OkFx
    dsimp only
    cases m n ds s'.sto <;> exact Iff.rfl
  exact ⟨fun h => h.imp fun ds s' q => (key ds s').mp q, fun h => h.imp fun ds s' q => (key ds s').mpr q⟩
def rtK (Q : PV → List MO → Prop) (s : S) : Fl → Prop
  | .rt d => Q d s.sto
  | .ro xs => Q (.lst xs) s.sto
  | .nx => Q .non s.sto
  | _ => False
theorem rtK_rt {Q : PV → List MO → Prop} {d : PV} : rtK Q s (.rt d) ↔ Q d s.sto := Iff.rfl
theorem rtK_ro {Q : PV → List MO → Prop} {xs : List PV} : rtK Q s (.ro xs) ↔ Q (.lst xs) s.sto := Iff.rfl
theorem rtK_nx {Q : PV → List MO → Prop} : rtK Q s .nx ↔ Q .non s.sto := Iff.rfl
theorem okF_fn {np nn n : Nat} {body : Nat → M Fl} {ds : List PV} {st : List MO} {Q : PV → List MO → Prop} (hl : ds.length = np)
    (h : Okx (fun e s => EF e s.sto) (body n) ⟨ds.map (fun d => some (SV.val d)) ++ List.replicate (nn - np) none, st⟩ (fun fl s => rtK Q s fl)) : OkFx EF (fnM np nn body n ds st) Q := by
  unfold fnM
  rw [if_pos hl]
  rcases h.two with ⟨fl, s', e, q⟩ | ⟨e, s', z, q⟩
  · rw [e]
    cases fl <;> exact q
  · rw [z]
    exact q
/-! ### handles -/
def getK (s : S) (Q : PV → S → Prop) : Option PV → Prop
  | some d => Q d s
  | none => False
theorem getK_some {Q : PV → S → Prop} {d : PV} : getK s Q (some d) ↔ Q d s := Iff.rfl
theorem ok_hget0 {key : Str} {kvs : List (L2.Key × PV)} {Q : PV → S → Prop} : Okx E (hgetP (.hnd 0) (.str key)) ⟨env, .dic kvs :: st⟩ Q ↔ getK ⟨env, .dic kvs :: st⟩ Q (valP kvs (.inr key)) := by
  unfold Okx hgetP getK
  simp only [List.getElem?_cons_zero]
  cases valP kvs (.inr key) <;> exact Iff.rfl
def putK (v : PV) (Q : Fl → S → Prop) (s : S) (a b : PV) : Prop := match a, b with
  | .hnd n, .str k => match s.sto[n]? with
    | some (.dic kvs) => kvs.length < sizeLine ∧ Q .nx ⟨s.env, s.sto.set n (.dic (putP kvs (.inr k) v))⟩
    | _ => False
  | _, _ => False
theorem ok_hputM {cd ck cv : M PV} {Q : Fl → S → Prop} : Okx E (hputM cd ck cv) s Q ↔ Okx E cv s (fun v s1 => Okx E cd s1 (fun a s2 => Okx E ck s2 (fun b s3 => putK v Q s3 a b))) := by
  unfold hputM
  rw [ok_bnd]
  have key : ∀ (v a b : PV) (s : S), Okx E (fun s : S => match a, b with
      | .hnd n, .str k => match s.sto[n]? with
        | some (.dic kvs) => if kvs.length < sizeLine then Res.ok Fl.nx { s with sto := s.sto.set n (.dic (putP kvs (.inr k) v)) } else .stk
        | _ => .stk
      | _, _ => .stk) s Q ↔ putK v Q s a b := fun v a b s => by
    unfold Okx putK
    dsimp only
    cases a <;> cases b <;> try exact Iff.rfl
    rename_i n x
    dsimp only
    cases s.sto[n]? with
    | none => exact Iff.rfl
    | some mo =>
      cases mo with
      | dic kvs =>
        dsimp only
        by_cases h : kvs.length < sizeLine
        · simp [h]
        · simp [h]
      | ins => exact Iff.rfl
      | own => exact Iff.rfl
      | dtt => exact Iff.rfl
      | gone => exact Iff.rfl
  exact ⟨fun h => h.imp fun v s1 q => (ok_bnd.mp q).imp fun a s2 q => (ok_bnd.mp q).imp fun b s3 q => (key v a b s3).mp q,
    fun h => h.imp fun v s1 q => ok_bnd.mpr (q.imp fun a s2 q => ok_bnd.mpr (q.imp fun b s3 q => (key v a b s3).mpr q))⟩
theorem putK0 {key : Str} {v : PV} {kvs : List (L2.Key × PV)} {Q : Fl → S → Prop} : putK v Q ⟨env, .dic kvs :: st⟩ (.hnd 0) (.str key) ↔ kvs.length < sizeLine ∧ Q .nx ⟨env, .dic (putP kvs (.inr key) v) :: st⟩ := Iff.rfl
/-! ### loops -/
def flK (Q : Fl → S → Prop) (N : S → Prop) (s : S) : Fl → Prop
  | .nx => N s
  | .ct => N s
  | .bk => Q .nx s
  | .rt d => Q (.rt d) s
  | .ro d => Q (.ro d) s
theorem ok_for {body : M Fl} {xs : List PV} {Q : Fl → S → Prop} (I : Nat → S → Prop) (h0 : I 0 s) (hs : ∀ (k : Nat) (x : PV) (s : S), xs[k]? = some x → I k s → Okx E body ⟨s.env.set i (some (.val x)), s.sto⟩ (fun fl s' => flK Q (I (k + 1)) s' fl)) (hd : ∀ s, I xs.length s → Q .nx s) : Okx E (forM i body xs) s Q := by
  have key : ∀ (ys : List PV) (k : Nat) (s : S), xs.drop k = ys → k + ys.length = xs.length → I k s → Okx E (forM i body ys) s Q := by
    intro ys
    induction ys with
    | nil =>
      intro k s e hl hI
      have hk : k = xs.length := by simpa using hl
      subst hk
      exact hd s hI
    | cons y ys ih =>
      intro k s e hl hI
      have hk : k < xs.length := by simp at hl; omega
      have e' := List.drop_eq_getElem_cons hk
      rw [e] at e'
      obtain ⟨e1, e2⟩ := List.cons.inj e'
      have hg : xs[k]? = some y := by rw [e1]; exact List.getElem?_eq_getElem hk
      have hb := hs k y s hg hI
      rcases hb.two with ⟨fl, s', eb, q⟩ | ⟨z, s', eb, q⟩
      case' inr =>
        have eb : body { s with env := s.env.set i (some (.val y)) } = .exc z s' := eb
        unfold Okx forM
        simp only [eb]
        exact q
      unfold Okx forM
      have eb : body { s with env := s.env.set i (some (.val y)) } = .ok fl s' := eb
      cases fl with
      | nx => simp only [eb]; exact ih (k + 1) s' e2.symm (by simp at hl; omega) q
      | ct => simp only [eb]; exact ih (k + 1) s' e2.symm (by simp at hl; omega) q
      | bk => simp only [eb]; exact q
      | rt d => simp only [eb]; exact q
      | ro d => simp only [eb]; exact q
  exact key xs 0 s rfl (by simp) h0
theorem ok_loopM {r : M (List PV)} {Q : Fl → S → Prop} : Okx E (loopM r i fa) s Q ↔ Okx E r s (fun xs s' => Okx E (forM i fa xs) s' Q) := by unfold loopM; exact ok_bnd
/-! ### comprehensions -/
theorem ok_lcM {r : M (List PV)} {vs : List Nat} {cond : M Bool} {Q : List PV → S → Prop} : Okx E (lcM r i vs cond ca) s Q ↔ Okx E r s (fun xs s' => Okx E (lcGo i vs cond ca xs []) ⟨wip s'.env vs, s'.sto⟩ Q) := by unfold lcM; exact ok_bnd
/-- by an invariant over the turn, what is made, the state -/
theorem ok_lcGo {vs : List Nat} {cond : M Bool} {elt : M PV} {xs : List PV} {Q : List PV → S → Prop} (I : Nat → List PV → S → Prop) (h0 : I 0 [] s)
    (hs : ∀ (k : Nat) (x : PV) (acc : List PV) (s : S), xs[k]? = some x → I k acc s → Ok cond ⟨s.env.set i (some (.val x)), s.sto⟩ (fun b s1 => if b = true then Ok elt s1 (fun y s2 => acc.length < sizeLine ∧ I (k + 1) (acc ++ [y]) ⟨wip s2.env vs, s2.sto⟩) else I (k + 1) acc ⟨wip s1.env vs, s1.sto⟩))
    (hd : ∀ acc s, I xs.length acc s → Q acc s) : Okx E (lcGo i vs cond elt xs []) s Q := by
  have key : ∀ (ys : List PV) (k : Nat) (acc : List PV) (s : S), xs.drop k = ys → k + ys.length = xs.length → I k acc s → Okx E (lcGo i vs cond elt ys acc) s Q := by
    intro ys
    induction ys with
    | nil =>
      intro k acc s e hl hI
      have hk : k = xs.length := by simpa using hl
      subst hk
      exact hd acc s hI
    | cons y ys ih =>
      intro k acc s e hl hI
      have hk : k < xs.length := by simp at hl; omega
      have e' := List.drop_eq_getElem_cons hk
      rw [e] at e'
      obtain ⟨e1, e2⟩ := List.cons.inj e'
      have hg : xs[k]? = some y := by rw [e1]; exact List.getElem?_eq_getElem hk
      obtain ⟨b, s1, ec, q⟩ := (hs k y acc s hg hI).ex
      have ec : cond { s with env := s.env.set i (some (.val y)) } = .ok b s1 := ec
      unfold Okx lcGo
      cases b with
      | false =>
        simp only [ec]
        exact ih (k + 1) acc _ e2.symm (by simp at hl; omega) q
      | true =>
        simp only [if_true] at q
        obtain ⟨z, s2, ee, q1, q2⟩ := Okx.ex q
        simp only [ec, ee, q1, if_true]
        exact ih (k + 1) (acc ++ [z]) _ e2.symm (by simp at hl; omega) q2
  exact key xs 0 [] s rfl (by simp) h0
end
end Dn
/-! Pl2: the operators' answers, a pen. -/
namespace Dn
open PySem
section
variable {s : S} {Q : PV → S → Prop} {QL : List PV → S → Prop} {a b : Int} {x y : Str} {xs ys : List PV} {E : PV → S → Prop}
theorem cmul_of (ha : a.natAbs < 2 ^ 200) (hb : b.natAbs < 2 ^ 200) : L2.CMulW a b := L2.wide_mul ha hb (by decide) (by decide) (by decide)
theorem cmul100 (ha : -1267650600228229401496703205376 ≤ a ∧ a ≤ 1267650600228229401496703205376) (hb : -1267650600228229401496703205376 ≤ b ∧ b ≤ 1267650600228229401496703205376) : L2.CMulW a b :=
  cmul_of (Nat.lt_of_le_of_lt (show a.natAbs ≤ 1267650600228229401496703205376 by omega) (by decide)) (Nat.lt_of_le_of_lt (show b.natAbs ≤ 1267650600228229401496703205376 by omega) (by decide))
theorem log_lt {n p : Nat} (h : n < 2 ^ p) (hp : 0 < p) : n.log2 < p := by
  by_cases h0 : n = 0
  · subst h0
    simpa using hp
  · exact (Nat.log2_lt h0).mpr h
theorem cdiv100 (h0 : 0 < b) (hb : b ≤ 1267650600228229401496703205376) : L2.CDivW a b := ⟨h0, Nat.lt_of_lt_of_le (log_lt (p := 200) (Nat.lt_of_le_of_lt (show b.natAbs ≤ 1267650600228229401496703205376 by omega) (by decide)) (by decide)) (by decide)⟩
theorem opt_if {c : Prop} [Decidable c] {d : PV} {R : PV → Prop} : (∃ a, (if c then some d else none) = some a ∧ R a) ↔ c ∧ R d := by
  by_cases h : c
  · simp only [if_pos h, h, true_and]; simp
  · simp only [if_neg h, h, false_and]; simp
theorem ok_add : Okx E (lft (addP (.int a) (.int b))) s Q ↔ Q (.int (a + b)) s := Iff.rfl
theorem ok_addS : Okx E (lft (addP (.str x) (.str y))) s Q ↔ x.length + y.length ≤ sizeLine ∧ Q (.str (x ++ y)) s := by
  exact ok_lft.trans opt_if
theorem ok_addT : Okx E (lft (addP (.tup xs) (.tup ys))) s Q ↔ xs.length + ys.length ≤ sizeLine ∧ Q (.tup (xs ++ ys)) s := by
  exact ok_lft.trans opt_if
theorem ok_addL : Okx E (lft (addP (.lst xs) (.lst ys))) s Q ↔ xs.length + ys.length ≤ sizeLine ∧ Q (.lst (xs ++ ys)) s := by
  exact ok_lft.trans opt_if
theorem ok_sub : Okx E (lft (subP (.int a) (.int b))) s Q ↔ Q (.int (a - b)) s := Iff.rfl
theorem ok_mul : Okx E (lft (mulP (.int a) (.int b))) s Q ↔ L2.CMulW a b ∧ Q (.int (a * b)) s := by
  exact ok_lft.trans opt_if
theorem ok_div : Okx E (lft (fdivP (.int a) (.int b))) s Q ↔ L2.CDivW a b ∧ Q (.int (a / b)) s := by
  exact ok_lft.trans opt_if
theorem ok_mod : Okx E (lft (modP (.int a) (.int b))) s Q ↔ 0 < b ∧ Q (.int (a % b)) s := by
  exact ok_lft.trans opt_if
theorem ok_pow : Okx E (lft (powP (.int a) (.int b))) s Q ↔ L2.CPow a b ∧ Q (.int (a ^ b.toNat)) s := by
  exact ok_lft.trans opt_if
theorem ok_rep {k : Int} : Okx E (lft (mulP (.lst xs) (.int k))) s Q ↔ ((-(2 ^ 63) ≤ k ∧ k < 2 ^ 63) ∧ xs.length * k.toNat ≤ sizeLine) ∧ Q (.lst (List.replicate k.toNat xs).flatten) s := by
  exact ok_lft.trans opt_if
theorem ok_ord {f : Int → Int → Bool} : Okx E (lft (ordP f (.int a) (.int b))) s Q ↔ Q (.bl (f a b)) s := Iff.rfl
theorem ok_fInt : Okx E (lft (intP (.int a))) s Q ↔ Q (.int a) s := Iff.rfl
theorem ok_fAbs : Okx E (lft (absP (.int a))) s Q ↔ Q (.int (if a < 0 then -a else a)) s := Iff.rfl
theorem ok_lenL : Okx E (lft (lenP (.lst xs))) s Q ↔ Q (.int xs.length) s := Iff.rfl
theorem ok_lenT : Okx E (lft (lenP (.tup xs))) s Q ↔ Q (.int xs.length) s := Iff.rfl
theorem ok_lenS : Okx E (lft (lenP (.str x))) s Q ↔ x.length ≤ sizeLine ∧ Q (.int x.length) s := by
  exact ok_lft.trans opt_if
theorem ok_fListL : Okx E (lft (listP (.lst xs))) s QL ↔ QL xs s := Iff.rfl
theorem ok_fListT : Okx E (lft (listP (.tup xs))) s QL ↔ QL xs s := Iff.rfl
theorem ok_fTupleL : Okx E (lft (tupleP (.lst xs))) s Q ↔ Q (.tup xs) s := Iff.rfl
theorem ok_fTupleT : Okx E (lft (tupleP (.tup xs))) s Q ↔ Q (.tup xs) s := Iff.rfl
theorem eqP_data {neg : Bool} {v w : PV} {d e : PyData} (hv : v.toD = some d) (hw : w.toD = some e) (h1 : SeqAt.shaped d = true) (h2 : SeqAt.shaped e = true) : eqP neg v w = some (.bl (if neg then !PyData.eqv d e else PyData.eqv d e)) := by
  unfold eqP
  split
  · rw [PV.toD] at hv hw
    cases hv
    cases hw
    simp [PyData.eqv]
  · simp [hv, hw, h1, h2]
theorem ok_eqD {neg : Bool} {v w : PV} {d e : PyData} (hv : v.toD = some d) (hw : w.toD = some e) (h1 : SeqAt.shaped d = true) (h2 : SeqAt.shaped e = true) : Okx E (lft (eqP neg v w)) s Q ↔ Q (.bl (if neg then !PyData.eqv d e else PyData.eqv d e)) s := by
  rw [ok_lft, eqP_data hv hw h1 h2]
  simp
theorem shaped_int {i : Int} : SeqAt.shaped (PyData.int i) = true := by unfold SeqAt.shaped; simp [PyData.canLay0, PyData.depth]
theorem shaped_bool {i : Bool} : SeqAt.shaped (PyData.bool i) = true := by unfold SeqAt.shaped; simp [PyData.canLay0, PyData.depth]
theorem ok_eqI {neg : Bool} : Okx E (lft (eqP neg (.int a) (.int b))) s Q ↔ Q (.bl (if neg then !(a == b) else a == b)) s := by
  have e : PyData.eqv (.int a) (.int b) = (a == b) := by simp [PyData.eqv]
  rw [ok_eqD (d := .int a) (e := .int b) (by rw [PV.toD]) (by rw [PV.toD]) shaped_int shaped_int, e]
theorem ok_eqS {neg : Bool} : Okx E (lft (eqP neg (.str x) (.str y))) s Q ↔ Q (.bl (if neg then !(x == y) else x == y)) s := by
  rw [ok_lft]
  unfold eqP
  simp
theorem ok_eqB {neg : Bool} {a b : Bool} : Okx E (lft (eqP neg (.bl a) (.bl b))) s Q ↔ Q (.bl (if neg then !(a == b) else a == b)) s := by
  have e : PyData.eqv (.bool a) (.bool b) = (a == b) := by simp [PyData.eqv]
  rw [ok_eqD (d := .bool a) (e := .bool b) (by rw [PV.toD]) (by rw [PV.toD]) shaped_bool shaped_bool, e]
/-- xs == [] -/
theorem ok_eqNil {neg : Bool} {ds : List PyData} (h : PV.toDs xs = some ds) (hs : SeqAt.shaped (.list ds) = true) : Okx E (lft (eqP neg (.lst xs) (.lst []))) s Q ↔ Q (.bl (if neg then !xs.isEmpty else xs.isEmpty)) s := by
  have e1 : (PV.lst xs).toD = some (.list ds) := by rw [PV.toD, h]; rfl
  have e2 : (PV.lst []).toD = some (.list []) := by rw [PV.toD, PV.toDs]; rfl
  have e3 : SeqAt.shaped (.list []) = true := by decide +kernel
  have e4 : PyData.eqv (.list ds) (.list []) = xs.isEmpty := by
    rw [PyData.eqv]
    cases xs with
    | nil => rw [PV.toDs] at h; cases h; rw [PyData.eqvAll]; rfl
    | cons z r =>
      rw [PV.toDs] at h
      split at h
      · cases h; rw [PyData.eqvAll]; rfl
      · cases h
  rw [ok_eqD e1 e2 hs e3, e4]
theorem toDs_ints (ns : List Int) : PV.toDs (ns.map PV.int) = some (ns.map PyData.int) := by
  induction ns with
  | nil => rw [List.map_nil, PV.toDs]; rfl
  | cons n r ih => rw [List.map_cons, PV.toDs, ih, PV.toD]; rfl
theorem canLay_ints (ns : List Int) : PyData.canLayAll0 (ns.map PyData.int) = true := by
  induction ns with
  | nil => rfl
  | cons n r ih => rw [List.map_cons, PyData.canLayAll0, ih, PyData.canLay0]; rfl
theorem depth_ints (ns : List Int) : PyData.depthAll (ns.map PyData.int) ≤ 1 := by
  induction ns with
  | nil => decide
  | cons n r ih =>
    rw [List.map_cons, PyData.depthAll, PyData.depth]
    omega
theorem shaped_list {ds : List PyData} (h1 : PyData.canLayAll0 ds = true) (h2 : PyData.depthAll ds ≤ 60) : SeqAt.shaped (.list ds) = true := by
  unfold SeqAt.shaped
  rw [PyData.canLay0, PyData.depth, h1]
  simp
  omega
theorem shaped_ints (ns : List Int) : SeqAt.shaped (.list (ns.map PyData.int)) = true := shaped_list (canLay_ints ns) (Nat.le_trans (depth_ints ns) (by decide))
theorem ok_prsN {QK : List (L2.Key × PV) → S → Prop} : Okx E (prsM []) s QK ↔ QK [] s := Iff.rfl
theorem ok_prsC {k : Str} {c : M PV} {r : List (Str × M PV)} {QK : List (L2.Key × PV) → S → Prop} : Okx E (prsM ((k, c) :: r)) s QK ↔ Okx E c s (fun d s' => Okx E (prsM r) s' (fun ds s2 => QK ((.inr k, d) :: ds) s2)) := by
  show Okx E (bnd c fun d => bnd (prsM r) fun ds => ret ((.inr k, d) :: ds)) s QK ↔ _
  rw [ok_bnd]
  exact ⟨fun h => h.imp fun a s' q => ok_bnd.mp q, fun h => h.imp fun a s' q => ok_bnd.mpr q⟩
theorem ok_dispM {kcs : List (Str × M PV)} : Okx E (dispM kcs) s Q ↔ Okx E (prsM kcs) s (fun kvs s' => kvs.length ≤ 15 ∧ Q (.hnd s'.sto.length) ⟨s'.env, s'.sto ++ [.dic (mergeP [] kvs)]⟩) := by
  unfold dispM
  rw [ok_bnd]
  have key : ∀ (kvs : List (L2.Key × PV)) (s' : S), Okx E (fun s : S => if kvs.length ≤ 15 then Res.ok (PV.hnd s.sto.length) { s with sto := s.sto ++ [.dic (mergeP [] kvs)] } else .stk) s' Q ↔ (kvs.length ≤ 15 ∧ Q (.hnd s'.sto.length) ⟨s'.env, s'.sto ++ [.dic (mergeP [] kvs)]⟩) := fun kvs s' => by
    unfold Okx
    by_cases h : kvs.length ≤ 15
    · simp [h]
    · simp [h]
  exact ⟨fun h => h.imp fun a s' q => (key a s').mp q, fun h => h.imp fun a s' q => (key a s').mpr q⟩
end
/-! ### a pen: the script's cells, how many were begun, what is left -/
section
variable {kc kb kl : Str} {cells : List Int} {b l v : Int} {E : PV → S → Prop}
def penD (kc kb kl : Str) (cells : List Int) (b l : Int) : List (L2.Key × PV) := [(.inr kc, .lst (cells.map .int)), (.inr kb, .int b), (.inr kl, .int l)]
structure Keys3 (kc kb kl : Str) : Prop where
  cb : kc ≠ kb
  cl : kc ≠ kl
  bl : kb ≠ kl
theorem pen_c : valP (penD kc kb kl cells b l) (.inr kc) = some (.lst (cells.map .int)) := by
  unfold valP penD
  simp
theorem pen_b (h : Keys3 kc kb kl) : valP (penD kc kb kl cells b l) (.inr kb) = some (.int b) := by
  unfold valP penD
  simp [List.find?_cons, h.cb]
theorem pen_l (h : Keys3 kc kb kl) : valP (penD kc kb kl cells b l) (.inr kl) = some (.int l) := by
  unfold valP penD
  simp [List.find?_cons, h.cl, h.bl]
theorem pen_put_b (h : Keys3 kc kb kl) : putP (penD kc kb kl cells b l) (.inr kb) (.int v) = penD kc kb kl cells v l := by
  unfold putP penD
  simp [h.cb, h.bl.symm]
theorem pen_put_l (h : Keys3 kc kb kl) : putP (penD kc kb kl cells b l) (.inr kl) (.int v) = penD kc kb kl cells b v := by
  unfold putP penD
  simp [h.cl, h.bl]
theorem pen_new (h : Keys3 kc kb kl) : mergeP [] [(.inr kc, .lst (cells.map .int)), (.inr kb, .int b), (.inr kl, .int l)] = penD kc kb kl cells b l := by
  unfold mergeP putP penD
  simp [h.cb, h.cl, h.bl]
end
end Dn
/-! Pl3: more answers: subscripts, unpacking, sorting, membership, blocks that answer somehow. -/
namespace Dn
open PySem
section
variable {s : S} {Q : PV → S → Prop} {QL : List PV → S → Prop} {QF : Fl → S → Prop} {a b : Int} {x y : Str} {xs ys : List PV} {i j : Nat} {ca : M PV} {E : PV → S → Prop}
theorem ok_ixL {k : Int} : Okx E (lft (ixP (.lst xs) (.int k))) s Q ↔ ∃ v, L2.atI xs k = some v ∧ Q v s := ok_lft
theorem ok_ixT {k : Int} : Okx E (lft (ixP (.tup xs) (.int k))) s Q ↔ ∃ v, L2.atI xs k = some v ∧ Q v s := ok_lft
theorem ok_ixS {k : Int} (hx : x.length ≤ sizeLine) : Okx E (lft (ixP (.str x) (.int k))) s Q ↔ ∃ c, L2.atI x.cps.toList k = some c ∧ Q (.str ⟨#[c]⟩) s := by
  rw [ok_lft]
  simp only [ixP, if_pos hx]
  constructor
  · rintro ⟨v, h1, h2⟩
    obtain ⟨c, e, rfl⟩ := Option.map_eq_some_iff.mp h1
    exact ⟨c, e, h2⟩
  · rintro ⟨c, e, h2⟩
    exact ⟨_, by rw [e]; rfl, h2⟩
theorem atI_in {α : Type} {ds : List α} {k : Int} (h0 : 0 ≤ k) (h1 : k < ds.length) : ∃ v, L2.atI ds k = some v ∧ v ∈ ds := by
  obtain ⟨m, rfl⟩ := Int.eq_ofNat_of_zero_le h0
  have hm : m < ds.length := by simpa using h1
  exact ⟨ds[m], L2.atI_nat (List.getElem?_eq_getElem hm), List.getElem_mem hm⟩
def unpK (E : PV → S → Prop) (is : List Nat) (s : S) (Q : Fl → S → Prop) : PV → Prop
  | .tup xs => xs.length = is.length ∧ Okx E (setAll is xs) s Q
  | _ => False
theorem ok_unp {is : List Nat} : Okx E (unpM is ca) s QF ↔ Okx E ca s (fun d s' => unpK E is s' QF d) := by
  unfold unpM
  rw [ok_bnd]
  refine ⟨fun h => h.imp fun a s' q => ?_, fun h => h.imp fun a s' q => ?_⟩ <;> cases a <;> try exact q
  · rename_i zs
    by_cases hl : zs.length = is.length
    · have q : Okx E (if zs.length = is.length then setAll is zs else stuck) s' QF := q
      rw [if_pos hl] at q
      exact ⟨hl, q⟩
    · have q : Okx E (if zs.length = is.length then setAll is zs else stuck) s' QF := q
      rw [if_neg hl] at q
      exact q.elim
  · rename_i zs
    show Okx E (if zs.length = is.length then setAll is zs else stuck) s' QF
    rw [if_pos q.1]
    exact q.2
theorem unpK_tup {is : List Nat} : unpK E is s QF (.tup xs) ↔ xs.length = is.length ∧ Okx E (setAll is xs) s QF := Iff.rfl
theorem ok_set0 : Okx E (setAll [] []) s QF ↔ QF .nx s := Iff.rfl
theorem ok_setC {is : List Nat} {d : PV} {env : Env} {st : List MO} : Okx E (setAll (i :: is) (d :: xs)) ⟨env, st⟩ QF ↔ Okx E (setAll is xs) ⟨env.set i (some (.val d)), st⟩ QF := by
  show Okx E (bnd (setV i d) fun _ => setAll is xs) ⟨env, st⟩ QF ↔ _
  rw [ok_bnd]
  exact Iff.rfl
theorem ok_allL {bs : List Bool} : Okx E (lft (allP (.lst (bs.map .bl)))) s Q ↔ Q (.bl (bs.all id)) s := by
  rw [ok_lft]; simp [allP, blsOf_map]
/-! ### data that can be shown and compared -/
structure GdD (n w : Nat) (d : PyData) : Prop where
  lay : d.canLay0 = true
  show' : d.showable = true
  short : d.intsShort 13 = true
  dep : d.depth ≤ n
  wt : d.weight ≤ w
structure GdA (n w : Nat) (ds : List PyData) : Prop where
  lay : PyData.canLayAll0 ds = true
  show' : PyData.showableAll ds = true
  short : PyData.intsShortAll 13 ds = true
  dep : PyData.depthAll ds ≤ n
  wt : PyData.weightAll ds ≤ w
def Gd (n w : Nat) (v : PV) : Prop := ∃ d, v.toD = some d ∧ GdD n w d
theorem GdD.mono {n w n' w' : Nat} {d : PyData} (h : GdD n w d) (hn : n ≤ n') (hw : w ≤ w') : GdD n' w' d := ⟨h.lay, h.show', h.short, Nat.le_trans h.dep hn, Nat.le_trans h.wt hw⟩
theorem Gd.mono {n w n' w' : Nat} {v : PV} (h : Gd n w v) (hn : n ≤ n') (hw : w ≤ w') : Gd n' w' v := by
  obtain ⟨d, e, g⟩ := h
  exact ⟨d, e, g.mono hn hw⟩
theorem gdAll {n w : Nat} : ∀ {vs : List PV}, (∀ v ∈ vs, Gd n w v) → ∃ ds, PV.toDs vs = some ds ∧ GdA n (vs.length * (w + 1)) ds
  | [], _ => ⟨[], by rw [PV.toDs], ⟨rfl, rfl, rfl, Nat.zero_le _, Nat.zero_le _⟩⟩
  | v :: vs, h => by
    obtain ⟨d, e, g⟩ := h v List.mem_cons_self
    obtain ⟨ds, es, gs⟩ := gdAll fun z hz => h z (List.mem_cons_of_mem _ hz)
    refine ⟨d :: ds, by rw [PV.toDs, e, es], ⟨?_, ?_, ?_, ?_, ?_⟩⟩
    · rw [PyData.canLayAll0, g.lay, gs.lay]; rfl
    · rw [PyData.showableAll, g.show', gs.show']; rfl
    · rw [PyData.intsShortAll, g.short, gs.short]; rfl
    · rw [PyData.depthAll]; exact Nat.max_le.mpr ⟨g.dep, gs.dep⟩
    · rw [PyData.weightAll, List.length_cons, Nat.add_mul]
      have h1 := g.wt
      have h2 := gs.wt
      omega
theorem gd_tup {n w : Nat} {vs : List PV} (h : ∀ v ∈ vs, Gd n w v) : Gd (n + 1) (vs.length * (w + 1)) (.tup vs) := by
  obtain ⟨ds, e, g⟩ := gdAll h
  refine ⟨.tuple ds, by rw [PV.toD, e]; rfl, ⟨?_, ?_, ?_, ?_, ?_⟩⟩
  · rw [PyData.canLay0]; exact g.lay
  · rw [PyData.showable]; exact g.show'
  · rw [PyData.intsShort]; exact g.short
  · rw [PyData.depth]; have := g.dep; omega
  · rw [PyData.weight]; exact g.wt
theorem gd_str {n w : Nat} {x : Str} (h : PyData.strOk x = true) (hw : x.length ≤ w) : Gd n w (.str x) := by
  refine ⟨.str x, by rw [PV.toD], ⟨by rw [PyData.canLay0]; exact h, by rw [PyData.showable], by rw [PyData.intsShort], by rw [PyData.depth]; exact Nat.zero_le _, by rw [PyData.weight]; exact hw⟩⟩
theorem gd_non {n w : Nat} : Gd n w .non :=
  ⟨.none, by rw [PV.toD], ⟨by rw [PyData.canLay0], by rw [PyData.showable], by rw [PyData.intsShort], by rw [PyData.depth]; exact Nat.zero_le _, by rw [PyData.weight]; exact Nat.zero_le _⟩⟩
theorem gd_int {n : Nat} {k : Int} (h : k.natAbs < 10 ^ 12) : Gd n 40 (.int k) := by
  have hl : k.natAbs.log2 < 40 := log_lt (Nat.lt_trans h (by decide)) (by decide)
  refine ⟨.int k, by rw [PV.toD], ⟨by rw [PyData.canLay0], ?_, ?_, by rw [PyData.depth]; exact Nat.zero_le _, ?_⟩⟩
  · rw [PyData.showable, decide_eq_true_eq]; omega
  · rw [PyData.intsShort, decide_eq_true_eq]; exact PyData.shown_int_le h
  · rw [PyData.weight]
    split <;> omega
theorem GdA.shaped {n w : Nat} {ds : List PyData} (h : GdA n w ds) (hn : n ≤ 60) : SeqAt.shaped (.list ds) = true := shaped_list h.lay (Nat.le_trans h.dep hn)
theorem GdD.shaped {n w : Nat} {d : PyData} (h : GdD n w d) (hn : n ≤ 60) : SeqAt.shaped d = true := by
  have h2 : d.depth ≤ 60 := Nat.le_trans h.dep hn
  unfold SeqAt.shaped
  rw [h.lay]
  simp
  omega
theorem ok_eqNilG {neg : Bool} {n w : Nat} (h : ∀ v ∈ xs, Gd n w v) (hn : n ≤ 60) : Okx E (lft (eqP neg (.lst xs) (.lst []))) s Q ↔ Q (.bl (if neg then !xs.isEmpty else xs.isEmpty)) s := by
  obtain ⟨ds, e, g⟩ := gdAll h
  exact ok_eqNil e (g.shaped hn)
/-! ### texts: valid ones -/
def sOk (w : Nat) (x : Str) : Prop := PyData.strOk x = true ∧ x.length ≤ w
theorem strOk_iff {x : Str} : PyData.strOk x = true ↔ ∀ c ∈ x.cps.toList, c < 0x110000 := by
  unfold PyData.strOk
  constructor
  · intro h c hc
    have := (Array.all_eq_true_iff_forall_mem.mp h) c (Array.mem_toList_iff.mp hc)
    simpa using this
  · intro h
    refine Array.all_eq_true_iff_forall_mem.mpr fun c hc => ?_
    have := h c (Array.mem_toList_iff.mpr hc)
    simpa using this
theorem sOk.mono {w w' : Nat} (hx : sOk w x) (h : w ≤ w') : sOk w' x := ⟨hx.1, Nat.le_trans hx.2 h⟩
theorem sOk.gd {n w : Nat} (hx : sOk w x) : Gd n w (.str x) := gd_str hx.1 hx.2
/-! ### an answer as an equation -/
theorem Okx.eq {α : Type} {c : M α} {s s' : S} {a : α} (h : Ok c s (fun b t => b = a ∧ t = s')) : c s = .ok a s' := by
  obtain ⟨b, t, e, rfl, rfl⟩ := h.ex
  exact e
theorem OkFx.eq {r : RR} {d : PV} {st : List MO} (h : OkF r (fun b t => b = d ∧ t = st)) : r = .ok d st := by
  obtain ⟨b, t, e, rfl, rfl⟩ := h.ex
  exact e
theorem OkFx.of {r : RR} {d : PV} {st : List MO} {Q : PV → List MO → Prop} (e : r = .ok d st) (h : Q d st) : OkF r Q := by rw [e]; exact h
theorem flK_nx {N : S → Prop} : flK QF N s .nx ↔ N s := Iff.rfl
theorem flK_ct {N : S → Prop} : flK QF N s .ct ↔ N s := Iff.rfl
theorem flK_bk {N : S → Prop} : flK QF N s .bk ↔ QF .nx s := Iff.rfl
theorem flK_ro {N : S → Prop} {d : List PV} : flK QF N s (.ro d) ↔ QF (.ro d) s := Iff.rfl
theorem flK_rt {N : S → Prop} {d : PV} : flK QF N s (.rt d) ↔ QF (.rt d) s := Iff.rfl
theorem sl_L {lo hi : Option Int} {R : PV → Prop} : (∃ z, slP (.lst xs) lo hi = some z ∧ R z) ↔ R (.lst (cutP xs lo hi)) := by simp [slP]
theorem sl_T {lo hi : Option Int} {R : PV → Prop} : (∃ z, slP (.tup xs) lo hi = some z ∧ R z) ↔ R (.tup (cutP xs lo hi)) := by simp [slP]
theorem sl_S {lo hi : Option Int} {R : PV → Prop} : (∃ z, slP (.str x) lo hi = some z ∧ R z) ↔ x.length ≤ sizeLine ∧ R (.str (L2.cutS x lo hi)) := by
  show (∃ z, (if x.length ≤ sizeLine then some (PV.str (L2.cutS x lo hi)) else none) = some z ∧ R z) ↔ _
  exact opt_if
theorem it_L {R : List PV → Prop} : (∃ z, itemsP (.lst xs) = some z ∧ R z) ↔ R xs := by simp [itemsP]
theorem it_T {R : List PV → Prop} : (∃ z, itemsP (.tup xs) = some z ∧ R z) ↔ R xs := by simp [itemsP]
/-! ### own lists -/
theorem ok_chkO {env : Env} {st : List MO} {QU : Unit → S → Prop} : Okx E (chkO i) ⟨env, st⟩ QU ↔ (∃ zs, env[i]? = some (some (.own zs))) ∧ QU () ⟨env, st⟩ := by
  unfold Okx chkO
  dsimp only
  rcases env[i]? with _ | _ | sv
  · exact ⟨fun h => h.elim, fun ⟨⟨_, h⟩, _⟩ => nomatch h⟩
  · exact ⟨fun h => h.elim, fun ⟨⟨_, h⟩, _⟩ => nomatch h⟩
  · cases sv with
    | val => exact ⟨fun h => h.elim, fun ⟨⟨_, h⟩, _⟩ => nomatch h⟩
    | own zs => exact ⟨fun h => ⟨⟨zs, rfl⟩, h⟩, fun h => h.2⟩
theorem ok_app {env : Env} {st : List MO} : Okx E (appM i ca) ⟨env, st⟩ Q ↔ (∃ zs, env[i]? = some (some (.own zs))) ∧ Okx E ca ⟨env, st⟩ (fun d s' => Okx E (pushM i d) s' Q) := by
  unfold appM
  rw [ok_bnd, ok_chkO, ok_bnd]
theorem ok_push {env : Env} {st : List MO} {d : PV} {zs : List PV} (h : env[i]? = some (some (.own zs))) (hl : zs.length < sizeLine) : Okx E (pushM i d) ⟨env, st⟩ Q ↔ Q .non ⟨env.set i (some (.own (zs ++ [d]))), st⟩ := by
  unfold Okx pushM
  simp only [h, hl, if_true]
/-! ### blocks that answer somehow -/
/-- with every turn making one thing -/
theorem ok_lcEach {vs : List Nat} {elt : M PV} {zs : List PV} {env : Env} {st : List MO} (I : Nat → List MO → Prop) (R : PV → Prop) (hw : wip env vs = env) (hi : i ∈ vs) (hl : zs.length ≤ sizeLine) (h0 : I 0 st)
    (hwi : ∀ x : PV, wip (env.set i (some (.val x))) vs = env)
    (hc : ∀ k x st, zs[k]? = some x → I k st → Ok elt ⟨env.set i (some (.val x)), st⟩ (fun y s2 => s2.env = env.set i (some (.val x)) ∧ R y ∧ I (k + 1) s2.sto))
    (hd : ∀ ys st', ys.length = zs.length → (∀ y ∈ ys, R y) → I zs.length st' → QL ys ⟨env, st'⟩) : Okx E (lcGo i vs (ret true) elt zs []) ⟨env, st⟩ QL := by
  refine ok_lcGo (fun k acc s => k ≤ zs.length ∧ s.env = env ∧ I k s.sto ∧ acc.length = k ∧ ∀ y ∈ acc, R y) ⟨Nat.zero_le _, rfl, h0, rfl, fun y h => by cases h⟩ ?_ ?_
  · rintro k x acc ⟨env', st'⟩ hx ⟨hk, rfl, hI, hla, hR⟩
    have hk' : k < zs.length := (List.getElem?_eq_some_iff.mp hx).1
    show Ok elt _ _
    refine (hc k x st' hx hI).imp fun y s2 q2 => ⟨by omega, hk', by rw [q2.1, hwi], q2.2.2, by simp; omega, fun z hz => ?_⟩
    rcases List.mem_append.mp hz with hz | hz
    · exact hR z hz
    · rw [List.mem_singleton.mp hz]
      exact q2.2.1
  · rintro acc ⟨env', st'⟩ ⟨_, rfl, hI, hla, hR⟩
    exact hd acc st' hla hR hI
/-- a typed filter and map: nothing changes -/
theorem ok_lcT {α : Type} {vs : List Nat} {cond : M Bool} {elt : M PV} {as : List α} (g : α → PV) {env : Env} {st : List MO} (p : α → Bool) (f : α → PV) (hw : wip env vs = env) (hi : i ∈ vs) (hl : as.length ≤ sizeLine)
    (hwi : ∀ x : PV, wip (env.set i (some (.val x))) vs = env)
    (hc : ∀ a ∈ as, Ok cond ⟨env.set i (some (.val (g a))), st⟩ (fun b s1 => b = p a ∧ s1 = ⟨env.set i (some (.val (g a))), st⟩))
    (he : ∀ a ∈ as, p a = true → Ok elt ⟨env.set i (some (.val (g a))), st⟩ (fun y s1 => y = f a ∧ s1 = ⟨env.set i (some (.val (g a))), st⟩))
    (hd : QL ((as.filter p).map f) ⟨env, st⟩) : Okx E (lcGo i vs cond elt (as.map g) []) ⟨env, st⟩ QL := by
  refine ok_lcGo (fun k acc s => s = ⟨env, st⟩ ∧ acc = ((as.take k).filter p).map f) ⟨rfl, by simp⟩ ?_ ?_
  · rintro k x acc s' hx ⟨rfl, rfl⟩
    rw [List.getElem?_map] at hx
    obtain ⟨a, hx2, rfl⟩ := Option.map_eq_some_iff.mp hx
    clear hx
    have hx := hx2
    have hm : a ∈ as := List.mem_of_getElem? hx
    have hk : k < as.length := (List.getElem?_eq_some_iff.mp hx).1
    have ht : as.take (k + 1) = as.take k ++ [a] := by
      rw [List.take_succ, hx]
      rfl
    refine (hc a hm).imp fun b s1 q => ?_
    obtain ⟨rfl, rfl⟩ := q
    cases hp : p a with
    | true =>
      simp only [if_true]
      refine (he a hm hp).imp fun y s2 q => ?_
      obtain ⟨rfl, rfl⟩ := q
      refine ⟨?_, by simp only [hwi], ?_⟩
      · refine Nat.lt_of_lt_of_le ?_ hl
        rw [List.length_map]
        exact Nat.lt_of_le_of_lt (List.length_filter_le _ _) (by rw [List.length_take]; omega)
      · rw [ht, List.filter_append, List.map_append, List.filter_cons, hp]
        rfl
    | false =>
      simp only [Bool.false_eq_true, if_false]
      refine ⟨by simp only [hwi], ?_⟩
      rw [ht, List.filter_append, List.map_append, List.filter_cons, hp]
      simp
  · rintro acc s' ⟨rfl, rfl⟩
    rw [List.length_map, List.take_length]
    exact hd
theorem ex_map {α : Type} {f : α → PV} {P : α → Prop} : ∀ {ys : List PV}, (∀ y ∈ ys, ∃ a, y = f a ∧ P a) → ∃ as : List α, ys = as.map f ∧ ∀ a ∈ as, P a
  | [], _ => ⟨[], rfl, fun a h => by cases h⟩
  | y :: ys, h => by
    obtain ⟨a, rfl, ha⟩ := h y List.mem_cons_self
    obtain ⟨as, rfl, h2⟩ := ex_map fun z hz => h z (List.mem_cons_of_mem _ hz)
    exact ⟨a :: as, rfl, fun b hb => by
      rcases List.mem_cons.mp hb with rfl | hb
      · exact ha
      · exact h2 b hb⟩
end
end Dn
/-! Pl4: cuts, joined texts, ranges, lots of titles. -/
namespace Dn
open PySem
section
variable {s : S} {Q : PV → S → Prop} {QL : List PV → S → Prop} {QF : Fl → S → Prop} {a b : Int} {x y : Str} {xs ys : List PV} {i j : Nat} {ca : M PV} {E : PV → S → Prop}
theorem sum_le {w : Nat} : ∀ {zs : List Str}, (∀ z ∈ zs, z.length ≤ w) → (zs.map (·.length)).sum ≤ zs.length * w
  | [], _ => Nat.zero_le _
  | z :: zs, h => by
    have h1 := h z List.mem_cons_self
    have h2 := sum_le fun z hz => h z (List.mem_cons_of_mem _ hz)
    rw [List.map_cons, List.sum_cons, List.length_cons, Nat.add_mul]
    omega
theorem joinP_map {zs : List Str} (h : (zs.map (·.length)).sum + zs.length * x.length ≤ 16777216) : joinP x (.lst (zs.map .str)) = some (.str (Txt.join x zs)) := by
  unfold joinP
  simp [strsOf_map, h]
theorem rngP_nat {k : Int} (h0 : 0 ≤ k) (h1 : k < 2 ^ 62) : rngP (.int k) = some ((List.range k.toNat).map fun (k : Nat) => PV.int (0 + (k : Int))) := by
  have : -(2 ^ 62) ≤ k ∧ k < 2 ^ 62 := by omega
  simp only [rngP, if_pos this]
theorem rng_get {k : Int} {t : Nat} {v : PV} (h : ((List.range k.toNat).map fun (k : Nat) => PV.int (0 + (k : Int)))[t]? = some v) : v = .int t ∧ (t : Int) < k := by
  rw [List.getElem?_map] at h
  obtain ⟨u, h1, rfl⟩ := Option.map_eq_some_iff.mp h
  obtain ⟨h2, h3⟩ := List.getElem?_eq_some_iff.mp h1
  rw [List.length_range] at h2
  rw [List.getElem_range] at h3
  subst h3
  refine ⟨by simp, by omega⟩
theorem rng_len {k : Int} : ((List.range k.toNat).map fun (k : Nat) => PV.int (0 + (k : Int))).length = k.toNat := by simp
theorem ones_fold : ∀ (ps : List Str) (acc : Array Nat), (∀ z ∈ ps, z.length = 1) → (ps.foldl (fun acc p => acc ++ (Str.ofString "").cps ++ p.cps) acc).size = acc.size + ps.length
  | [], acc, _ => rfl
  | p :: ps, acc, h => by
    rw [List.foldl_cons, ones_fold ps _ fun z hz => h z (List.mem_cons_of_mem _ hz), Array.size_append, Array.size_append]
    have e1 : (Str.ofString "").cps.size = 0 := rfl
    have e2 : p.cps.size = 1 := h p List.mem_cons_self
    rw [e1, e2, List.length_cons]
    omega
theorem join_one : ∀ zs : List Str, (∀ z ∈ zs, z.length = 1) → (Txt.join (Str.ofString "") zs).length = zs.length
  | [], _ => rfl
  | z :: r, h => by
    show (r.foldl (fun acc p => acc ++ (Str.ofString "").cps ++ p.cps) z.cps).size = _
    rw [ones_fold r _ fun y hy => h y (List.mem_cons_of_mem _ hy), List.length_cons]
    have e2 : z.cps.size = 1 := h z List.mem_cons_self
    omega
/-! ### lots: titles in tuples -/
abbrev tT (l : List Str) : PV := .tup (l.map .str)
end
end Dn
/-! Pl5: filters that answer somehow; lots of titles. -/
namespace Dn
open PySem
section
variable {s : S} {Q : PV → S → Prop} {QL : List PV → S → Prop} {i : Nat} {E : PV → S → Prop}
def Lt (l : List Str) : Prop := l.length ≤ 7 ∧ ∀ x ∈ l, sOk 40 x
def Ls (m : Nat) (ls : List (List Str)) : Prop := ls.length ≤ m ∧ ∀ l ∈ ls, Lt l
theorem Lt.gd {l : List Str} (h : Lt l) : Gd 1 300 (tT l) := by
  refine (gd_tup (n := 0) (w := 40) fun v hv => ?_).mono (Nat.le_refl _) ?_
  · obtain ⟨x, hx, rfl⟩ := List.mem_map.mp hv
    exact (h.2 x hx).gd
  · rw [List.length_map]
    have := h.1
    omega
theorem Ls.gd {m : Nat} {ls : List (List Str)} (h : Ls m ls) : ∀ v ∈ ls.map tT, Gd 1 300 v := fun v hv => by
  obtain ⟨l, hl, rfl⟩ := List.mem_map.mp hv
  exact (h.2 l hl).gd
theorem Ls.mono {m m' : Nat} {ls : List (List Str)} (h : Ls m ls) (hm : m ≤ m') : Ls m' ls := ⟨Nat.le_trans h.1 hm, h.2⟩
theorem Ls.sub {m : Nat} {ls ls' : List (List Str)} (h : Ls m ls) (hl : ls'.length ≤ ls.length) (hs : ∀ l ∈ ls', l ∈ ls) : Ls m ls' := ⟨Nat.le_trans hl h.1, fun l hm => h.2 l (hs l hm)⟩
theorem filter_true {α : Type} (l : List α) : l.filter (fun _ => true) = l := List.filter_eq_self.mpr fun _ _ => rfl
theorem ok_seq {fa fb : M Fl} {Q : Fl → S → Prop} (h : Okx E fa s (fun fl s' => seqK E fb s' Q fl)) : Okx E (seqM fa fb) s Q := ok_seqM.mpr h
theorem ok_allM {α : Type} {p : α → Bool} {as : List α} : Okx E (lft (allP (.lst (as.map fun a => .bl (p a))))) s Q ↔ Q (.bl (as.all p)) s := by
  have e : (as.map fun a => PV.bl (p a)) = (as.map p).map PV.bl := by rw [List.map_map]; rfl
  rw [e, ok_allL, List.all_map]
  rfl
theorem Ls.app {m k : Nat} {a b : List (List Str)} (h1 : Ls m a) (h2 : Ls k b) : Ls (m + k) (a ++ b) := ⟨by rw [List.length_append]; exact Nat.add_le_add h1.1 h2.1, fun l hl => by
  rcases List.mem_append.mp hl with hl | hl
  · exact h1.2 l hl
  · exact h2.2 l hl⟩
end
end Dn
/-! Pl6: more answers: objects, methods, exceptions. -/
namespace Dn
open PySem
section
variable {s : S} {Q : PV → S → Prop} {QL : List PV → S → Prop} {QF : Fl → S → Prop} {a b : Int} {x y : Str} {xs ys : List PV} {i j n : Nat} {ca cb cc : M PV} {ra rb : M (List PV)} {fa fb : M Fl} {E : PV → S → Prop} {env : Env} {st : List MO} {m : Fn} {ds : List PV}
theorem okF_ok {EF : PV → List MO → Prop} {Q : PV → List MO → Prop} {d : PV} : OkFx EF (.ok d st) Q ↔ Q d st := Iff.rfl
theorem okF_exc {EF : PV → List MO → Prop} {Q : PV → List MO → Prop} {d : PV} : OkFx EF (.exc d st) Q ↔ EF d st := Iff.rfl
theorem ok_runM : Okx E (runM m n ds) s Q ↔ OkFx (fun e st => E e ⟨s.env, st⟩) (m n ds s.sto) (fun d st => Q d ⟨s.env, st⟩) := by
  unfold Okx OkFx runM
  dsimp only
  cases m n ds s.sto <;> exact Iff.rfl
theorem ok_appA : Okx E (appA i j ra rb) s QL ↔ Okx E ra s (fun a s1 => Okx E rb s1 (fun b s2 => (a.length = i ∧ b.length = j) ∧ QL (a ++ b) s2)) := by
  unfold appA
  rw [ok_bnd]
  have key : ∀ (a b : List PV) (s : S), Okx E (if a.length = i ∧ b.length = j then ret (a ++ b) else stuck) s QL ↔ (a.length = i ∧ b.length = j) ∧ QL (a ++ b) s := fun a b s => by
    by_cases h : a.length = i ∧ b.length = j
    · rw [if_pos h]; exact ⟨fun q => ⟨h, q⟩, fun q => q.2⟩
    · rw [if_neg h]; exact ⟨fun q => q.elim, fun q => (h q.1).elim⟩
  exact ⟨fun h => h.imp fun a s1 q => (ok_bnd.mp q).imp fun b s2 q => (key a b s2).mp q, fun h => h.imp fun a s1 q => ok_bnd.mpr (q.imp fun b s2 q => (key a b s2).mpr q)⟩
theorem ok_len1 : Okx E (bnd ra fun ds => if ds.length = i then ret ds else stuck) s QL ↔ Okx E ra s (fun ds s1 => ds.length = i ∧ QL ds s1) := by
  rw [ok_bnd]
  have key : ∀ (a : List PV) (s : S), Okx E (if a.length = i then ret a else stuck) s QL ↔ a.length = i ∧ QL a s := fun a s => by
    by_cases h : a.length = i
    · rw [if_pos h]; exact ⟨fun q => ⟨h, q⟩, fun q => q.2⟩
    · rw [if_neg h]; exact ⟨fun q => q.elim, fun q => (h q.1).elim⟩
  exact ⟨fun h => h.imp fun a s1 q => (key a s1).mp q, fun h => h.imp fun a s1 q => (key a s1).mpr q⟩
def starK (E : PV → S → Prop) (r : M (List PV)) (s : S) (Q : List PV → S → Prop) : PV → Prop
  | .tup xs => Okx E r s (fun ys s2 => Q (xs ++ ys) s2)
  | .lst xs => Okx E r s (fun ys s2 => Q (xs ++ ys) s2)
  | _ => False
theorem starK_tup : starK E ra s QL (.tup xs) ↔ Okx E ra s (fun ys s2 => QL (xs ++ ys) s2) := Iff.rfl
theorem starK_lst : starK E ra s QL (.lst xs) ↔ Okx E ra s (fun ys s2 => QL (xs ++ ys) s2) := Iff.rfl
theorem ok_argS : Okx E (argS ca ra) s QL ↔ Okx E ca s (fun d s1 => starK E ra s1 QL d) := by
  unfold argS
  rw [ok_bnd]
  refine ⟨fun h => h.imp fun a s' q => ?_, fun h => h.imp fun a s' q => ?_⟩ <;> cases a <;> first | exact q | exact (ok_bnd.mp q) | exact ok_bnd.mpr q
theorem ok_chain {f g : PV → PV → M PV} : Okx E (chainM f g ca cb cc) s Q ↔ Okx E ca s (fun a s1 => Okx E cb s1 (fun b s2 => Okx E (f a b) s2 (fun d s3 => blK s3 (fun x => if x = true then Okx E cc s3 (fun c s4 => Okx E (g b c) s4 Q) else Q (.bl false) s3) d))) := by
  unfold chainM
  rw [ok_bnd]
  have key : ∀ (b d : PV) (s : S), Okx E (match d with
    | .bl true => bnd cc fun c => g b c
    | .bl false => ret (.bl false)
    | _ => stuck : M PV) s Q ↔ blK s (fun x => if x = true then Okx E cc s (fun c s4 => Okx E (g b c) s4 Q) else Q (.bl false) s) d := fun b d s => by
    cases d <;> try exact Iff.rfl
    rename_i z
    cases z
    · exact Iff.rfl
    · exact ok_bnd
  exact ⟨fun h => h.imp fun a s1 q => (ok_bnd.mp q).imp fun b s2 q => (ok_bnd.mp q).imp fun d s3 q => (key b d s3).mp q,
    fun h => h.imp fun a s1 q => ok_bnd.mpr (q.imp fun b s2 q => ok_bnd.mpr (q.imp fun d s3 q => (key b d s3).mpr q))⟩
def isNonB : PV → Bool
  | .non => true
  | _ => false
theorem isNonB_non : isNonB .non = true := rfl
theorem isNonB_int : isNonB (.int a) = false := rfl
theorem isNonB_bl {b : Bool} : isNonB (.bl b) = false := rfl
theorem isNonB_str : isNonB (.str x) = false := rfl
theorem isNonB_tup : isNonB (.tup xs) = false := rfl
theorem isNonB_lst : isNonB (.lst xs) = false := rfl
theorem isNonB_obj {c : Str} {ks : List Str} : isNonB (.obj c ks xs) = false := rfl
theorem ok_isN {neg : Bool} : Okx E (isN neg ca) s Q ↔ Okx E ca s (fun d s1 => Q (.bl (isNonB d != neg)) s1) := by
  unfold isN
  rw [ok_bnd]
  refine ⟨fun h => h.imp fun a s' q => ?_, fun h => h.imp fun a s' q => ?_⟩ <;> cases a <;> cases neg <;> exact q
theorem ok_max : Okx E (lft (maxP (.int a) (.int b))) s Q ↔ Q (.int (max a b)) s := by
  have e : (if b > a then b else a) = max a b := by rw [Int.max_def]; split <;> split <;> omega
  rw [ok_lft, ← e]
  simp [maxP]
theorem ok_min : Okx E (lft (minP (.int a) (.int b))) s Q ↔ Q (.int (min a b)) s := by
  have e : (if b < a then b else a) = min a b := by rw [Int.min_def]; split <;> split <;> omega
  rw [ok_lft, ← e]
  simp [minP]
/-! isinstance of built-in types -/
theorem isi_of {t nm : String} {d : PV} {r : Bool} (h : tyP d = some t) (k : L2.kitB t nm = some r) : Okx E (lft (isiP nm d)) s Q ↔ Q (.bl r) s := by
  rw [ok_lft]
  simp [isiP, h, k]
theorem isi_int_int : Okx E (lft (isiP "int" (.int a))) s Q ↔ Q (.bl true) s := isi_of rfl (by decide +kernel)
theorem isi_int_bl {b : Bool} : Okx E (lft (isiP "int" (.bl b))) s Q ↔ Q (.bl true) s := isi_of rfl (by decide +kernel)
theorem isi_int_non : Okx E (lft (isiP "int" .non)) s Q ↔ Q (.bl false) s := isi_of rfl (by decide +kernel)
theorem isi_int_str : Okx E (lft (isiP "int" (.str x))) s Q ↔ Q (.bl false) s := isi_of rfl (by decide +kernel)
theorem isi_int_tup : Okx E (lft (isiP "int" (.tup xs))) s Q ↔ Q (.bl false) s := isi_of rfl (by decide +kernel)
theorem isi_int_lst : Okx E (lft (isiP "int" (.lst xs))) s Q ↔ Q (.bl false) s := isi_of rfl (by decide +kernel)
theorem isi_bool_int : Okx E (lft (isiP "bool" (.int a))) s Q ↔ Q (.bl false) s := isi_of rfl (by decide +kernel)
theorem isi_bool_bl {b : Bool} : Okx E (lft (isiP "bool" (.bl b))) s Q ↔ Q (.bl true) s := isi_of rfl (by decide +kernel)
theorem isi_str_str : Okx E (lft (isiP "str" (.str x))) s Q ↔ Q (.bl true) s := isi_of rfl (by decide +kernel)
theorem isi_str_int : Okx E (lft (isiP "str" (.int a))) s Q ↔ Q (.bl false) s := isi_of rfl (by decide +kernel)
theorem isi_str_bl {b : Bool} : Okx E (lft (isiP "str" (.bl b))) s Q ↔ Q (.bl false) s := isi_of rfl (by decide +kernel)
theorem isi_str_non : Okx E (lft (isiP "str" .non)) s Q ↔ Q (.bl false) s := isi_of rfl (by decide +kernel)
theorem isi_str_tup : Okx E (lft (isiP "str" (.tup xs))) s Q ↔ Q (.bl false) s := isi_of rfl (by decide +kernel)
theorem isi_str_lst : Okx E (lft (isiP "str" (.lst xs))) s Q ↔ Q (.bl false) s := isi_of rfl (by decide +kernel)
theorem isi_tuple_tup : Okx E (lft (isiP "tuple" (.tup xs))) s Q ↔ Q (.bl true) s := isi_of rfl (by decide +kernel)
theorem isi_tuple_int : Okx E (lft (isiP "tuple" (.int a))) s Q ↔ Q (.bl false) s := isi_of rfl (by decide +kernel)
theorem isi_tuple_bl {b : Bool} : Okx E (lft (isiP "tuple" (.bl b))) s Q ↔ Q (.bl false) s := isi_of rfl (by decide +kernel)
theorem isi_tuple_non : Okx E (lft (isiP "tuple" .non)) s Q ↔ Q (.bl false) s := isi_of rfl (by decide +kernel)
theorem isi_tuple_str : Okx E (lft (isiP "tuple" (.str x))) s Q ↔ Q (.bl false) s := isi_of rfl (by decide +kernel)
theorem isi_tuple_lst : Okx E (lft (isiP "tuple" (.lst xs))) s Q ↔ Q (.bl false) s := isi_of rfl (by decide +kernel)
/-! ### fields -/
def fldV (cs : List Str) (f : Str) (s : S) (d : PV) : Option PV := match insOf s d with
  | some (c, ks, vs) => if c ∈ cs then (ks.zip vs).lookup f else none
  | none => none
theorem ok_fldM {cs : List Str} {f : Str} {d : PV} : Okx E (fldM cs f d) s Q ↔ ∃ v, fldV cs f s d = some v ∧ Q v s := by
  unfold Okx fldM fldV
  cases insOf s d with
  | none => exact ⟨fun h => h.elim, fun ⟨_, h, _⟩ => nomatch h⟩
  | some t =>
    obtain ⟨c, ks, vs⟩ := t
    dsimp only
    by_cases h : c ∈ cs
    · rw [if_pos h, if_pos h]
      cases (ks.zip vs).lookup f with
      | none => exact ⟨fun h => h.elim, fun ⟨_, h, _⟩ => nomatch h⟩
      | some v => exact ⟨fun h => ⟨v, rfl, h⟩, fun ⟨w, e, h⟩ => by cases e; exact h⟩
    · rw [if_neg h, if_neg h]
      exact ⟨fun h => h.elim, fun ⟨_, h, _⟩ => nomatch h⟩
theorem ok_fld {cs : List Str} {f : Str} {d v : PV} (h : fldV cs f s d = some v) : Okx E (fldM cs f d) s Q ↔ Q v s := by
  rw [ok_fldM]
  exact ⟨fun ⟨w, e, q⟩ => by rw [h] at e; cases e; exact q, fun q => ⟨v, h, q⟩⟩
def conV (cs : List Str) (f : Str) (s : S) (d : PV) : Prop := match insOf s d with
  | some (c, ks, vs) => c ∈ cs ∧ (ks.zip vs).lookup f = none
  | none => False
theorem ok_conM {cs : List Str} {f : Str} {k : Int} {d : PV} : Okx E (conM cs f k d) s Q ↔ conV cs f s d ∧ Q (.int k) s := by
  unfold Okx conM conV
  cases insOf s d with
  | none => exact ⟨fun h => h.elim, fun h => h.1⟩
  | some t =>
    obtain ⟨c, ks, vs⟩ := t
    dsimp only
    by_cases h : c ∈ cs ∧ (ks.zip vs).lookup f = none
    · rw [if_pos h]
      exact ⟨fun q => ⟨h, q⟩, fun q => q.2⟩
    · rw [if_neg h]
      exact ⟨fun q => q.elim, fun q => h q.1⟩
def fputK (cs : List Str) (f : Str) (v : PV) (s : S) (Q : Fl → S → Prop) : PV → Prop
  | .hnd n => match s.sto[n]? with
    | some (.ins c ks vs) => (c ∈ cs ∧ ks.length < 1000) ∧ Q .nx ⟨s.env, s.sto.set n (.ins c (putKV f v ks vs).1 (putKV f v ks vs).2)⟩
    | _ => False
  | _ => False
theorem ok_fputM {cs : List Str} {f : Str} {cd cv : M PV} : Okx E (fputM cs f cd cv) s QF ↔ Okx E cv s (fun v s1 => Okx E cd s1 (fun d s2 => fputK cs f v s2 QF d)) := by
  unfold fputM
  rw [ok_bnd]
  have key : ∀ (v d : PV) (s : S), Okx E (fun s : S => match d with
      | .hnd n => match s.sto[n]? with
        | some (.ins c ks vs) => if c ∈ cs ∧ ks.length < 1000 then Res.ok Fl.nx { s with sto := s.sto.set n (.ins c (putKV f v ks vs).1 (putKV f v ks vs).2) } else .stk
        | _ => .stk
      | _ => .stk) s QF ↔ fputK cs f v s QF d := fun v d s => by
    unfold Okx fputK
    dsimp only
    cases d <;> try exact Iff.rfl
    rename_i n
    dsimp only
    cases s.sto[n]? with
    | none => exact Iff.rfl
    | some mo =>
      cases mo with
      | ins c ks vs =>
        dsimp only
        by_cases h : c ∈ cs ∧ ks.length < 1000
        · rw [if_pos h]; exact ⟨fun q => ⟨h, q⟩, fun q => q.2⟩
        · rw [if_neg h]; exact ⟨fun q => q.elim, fun q => h q.1⟩
      | dic => exact Iff.rfl
      | own => exact Iff.rfl
      | dtt => exact Iff.rfl
      | gone => exact Iff.rfl
  exact ⟨fun h => h.imp fun v s1 q => (ok_bnd.mp q).imp fun a s2 q => (key v a s2).mp q, fun h => h.imp fun v s1 q => ok_bnd.mpr (q.imp fun a s2 q => (key v a s2).mpr q)⟩
/-! an instance while it is made: the last two of the store -/
abbrev mkS (st : List MO) (c : Str) (ks : List Str) (vs : List PV) : List MO := st ++ [.ins c ks vs, .own st.length]
theorem mkS_get {c : Str} {ks : List Str} {vs : List PV} : (st ++ [MO.ins c ks vs, .own st.length])[st.length]? = some (.ins c ks vs) := by simp
theorem mkS_set {c : Str} {ks : List Str} {vs : List PV} {o : MO} : (st ++ [MO.ins c ks vs, .own st.length]).set st.length o = st ++ [o, .own st.length] := by simp
theorem fputK_new {cs : List Str} {f c : Str} {ks : List Str} {vs : List PV} {v : PV} : fputK cs f v ⟨env, mkS st c ks vs⟩ QF (.hnd st.length) ↔ (c ∈ cs ∧ ks.length < 1000) ∧ QF .nx ⟨env, mkS st c (putKV f v ks vs).1 (putKV f v ks vs).2⟩ := by
  unfold fputK
  simp only [mkS_get, mkS_set]
theorem conV_new {cs : List Str} {f c : Str} {ks : List Str} {vs : List PV} : conV cs f ⟨env, mkS st c ks vs⟩ (.hnd st.length) ↔ c ∈ cs ∧ (ks.zip vs).lookup f = none := by
  unfold conV insOf
  simp only [mkS_get]
theorem insOf_new {c : Str} {ks : List Str} {vs : List PV} : insOf ⟨env, mkS st c ks vs⟩ (.hnd st.length) = some (c, ks, vs) := by
  unfold insOf
  simp only [mkS_get]
theorem insOf_obj {c : Str} {ks : List Str} {vs : List PV} : insOf s (.obj c ks vs) = some (c, ks, vs) := rfl
/-! ### an instance made -/
def makeD (c : Str) (mf : Fn) (n : Nat) (ds : List PV) : M PV := fun s => match mf n (.hnd s.sto.length :: ds) (s.sto ++ [.ins c [] [], .own s.sto.length]) with
  | .ok .non st' => (match st'[s.sto.length]?, st'[s.sto.length + 1]? with
    | some (.ins c' ks vs), some (.own j) => if j = s.sto.length then .ok (.obj c' ks vs) { s with sto := (st'.set s.sto.length .gone).set (s.sto.length + 1) .gone } else .stk
    | _, _ => .stk)
  | .exc e st' => .exc e { s with sto := st' }
  | _ => .stk
theorem ok_makeM {c : Str} : Okx E (makeM c m n ra) s Q ↔ Okx E ra s (fun ds s1 => Okx E (makeD c m n ds) s1 Q) := by
  unfold makeM
  exact ok_bnd
theorem ok_made {c c' : Str} {ks : List Str} {vs : List PV} (h : m n (.hnd st.length :: ds) (mkS st c [] []) = .ok .non (mkS st c' ks vs)) : Okx E (makeD c m n ds) ⟨env, st⟩ Q ↔ Q (.obj c' ks vs) ⟨env, st ++ [.gone, .gone]⟩ := by
  have e : makeD c m n ds ⟨env, st⟩ = .ok (.obj c' ks vs) ⟨env, st ++ [.gone, .gone]⟩ := by
    unfold makeD
    dsimp only
    rw [h]
    have e2 : (st ++ [MO.ins c' ks vs, .own st.length])[st.length + 1]? = some (.own st.length) := by
      rw [List.getElem?_append_right (by omega)]
      simp
    have e3 : (st ++ [MO.gone, .own st.length]).set (st.length + 1) .gone = st ++ [.gone, .gone] := by
      rw [List.set_append_right _ _ (by omega)]
      simp
    simp only [mkS_get, e2, mkS_set, e3, if_true]
  unfold Okx
  rw [e]
/-! ### methods, instances called, super() -/
def methD (tab : List (Str × Fn)) (n : Nat) (m : Str) (r : M (List PV)) (d : PV) : M PV := fun s => match insOf s d with
  | some (c, ks, vs) => if (ks.zip vs).lookup m = none then (match tab.lookup c with
    | some f => bnd r (fun ds => runM f n (d :: ds)) s
    | none => .stk) else .stk
  | none => .stk
theorem ok_methM {tab : List (Str × Fn)} {mn : Str} : Okx E (methM tab n mn ca ra) s Q ↔ Okx E ca s (fun d s1 => Okx E (methD tab n mn ra d) s1 Q) := ok_bnd
theorem methD_obj {tab : List (Str × Fn)} {mn c : Str} {ks : List Str} {vs : List PV} (hf : (ks.zip vs).lookup mn = none) (ht : tab.lookup c = some m) : methD tab n mn ra (.obj c ks vs) = bnd ra (fun ds => runM m n (.obj c ks vs :: ds)) := by
  funext s
  unfold methD
  simp only [insOf_obj, hf, ht, if_true]
def insD (tab : List (Str × Fn)) (n : Nat) (r : M (List PV)) (d : PV) : M PV := fun s => match insOf s d with
  | some (c, _, _) => (match tab.lookup c with
    | some f => bnd r (fun ds s2 => match insOf s2 d with
      | some (c2, _, _) => if c2 = c then runM f n (d :: ds) s2 else .stk
      | none => .stk) s
    | none => .stk)
  | none => .stk
theorem ok_insM {tab : List (Str × Fn)} : Okx E (insM tab n ca ra) s Q ↔ Okx E ca s (fun d s1 => Okx E (insD tab n ra d) s1 Q) := ok_bnd
theorem insD_obj {tab : List (Str × Fn)} {c : Str} {ks : List Str} {vs : List PV} (ht : tab.lookup c = some m) : insD tab n ra (.obj c ks vs) = bnd ra (fun ds => runM m n (.obj c ks vs :: ds)) := by
  funext s
  unfold insD
  simp only [insOf_obj, ht, if_true]
theorem propM_obj {tab : List (Str × Fn)} {c : Str} {ks : List Str} {vs : List PV} {r : PV} (ht : tab.lookup c = some m) (hm : m n [.obj c ks vs] s.sto = .ok r s.sto) : Okx E (propM tab n (.obj c ks vs)) s Q ↔ Q r s := by
  have e : propM tab n (.obj c ks vs) s = .ok r s := by
    unfold propM
    simp only [insOf_obj, ht, hm]
  unfold Okx
  rw [e]
theorem ok_sup {tab : List (Str × Fn)} {d : PV} {c : Str} {ks : List Str} {vs : List PV} (h0 : env[0]? = some (some (.val d))) (hi : insOf ⟨env, st⟩ d = some (c, ks, vs)) (ht : tab.lookup c = some m) : Okx E (supM tab n ra) ⟨env, st⟩ Q ↔ Okx E ra ⟨env, st⟩ (fun ds s1 => Okx E (runM m n (d :: ds)) s1 Q) := by
  have e : supM tab n ra ⟨env, st⟩ = bnd ra (fun ds => runM m n (d :: ds)) ⟨env, st⟩ := by
    unfold supM
    simp only [h0, hi, ht]
  rw [← ok_bnd]
  unfold Okx
  rw [e]
/-! ### exceptions -/
theorem ok_raise {c f : Str} : Okx E (raiseM c f ca) s QF ↔ Okx E ca s (fun d s1 => E (.obj c [f] [d]) s1) := by
  unfold raiseM
  rw [ok_bnd]
  exact Iff.rfl
end
end Dn
/-! Nu: numbers as texts; equal data. -/
namespace Dn
open PySem
/-! equal data -/
/-! items of written tuples -/
theorem ix20 {a b : PV} {R : PV → Prop} : (∃ v, L2.atI [a, b] 0 = some v ∧ R v) ↔ R a := ⟨fun ⟨v, e, h⟩ => by cases e; exact h, fun h => ⟨a, rfl, h⟩⟩
theorem ix21 {a b : PV} {R : PV → Prop} : (∃ v, L2.atI [a, b] 1 = some v ∧ R v) ↔ R b := ⟨fun ⟨v, e, h⟩ => by cases e; exact h, fun h => ⟨b, rfl, h⟩⟩
/-! new answers -/
end Dn
/-! Pl7: kept exceptions answered; values of any kind. -/
namespace Dn
open PySem
end Dn
/-! Pl8: plain answers: pairs of names in a for, enumerate, stars, own operators, == []. -/
namespace Dn
open PySem
section
variable {s : S} {Q : PV → S → Prop} {QL : List PV → S → Prop} {QF : Fl → S → Prop} {E : PV → S → Prop} {ca cb cv : M PV} {fa : M Fl} {ra : M (List PV)} {i j n : Nat} {env : Env} {st : List MO} {v : PV} {m : Fn} {ds : List PV}
theorem ok_loopU {is : List Nat} {r : M (List PV)} : Okx E (loopU r is fa) s QF ↔ Okx E r s (fun xs s' => Okx E (forU is fa xs) s' QF) := by unfold loopU; exact ok_bnd
theorem ok_enumM : Okx E (enumM ca) s QL ↔ Okx E ca s (fun d s' => ∃ xs, enumP d = some xs ∧ QL xs s') := by
  unfold enumM
  rw [ok_bnd]
  exact ⟨fun h => h.imp fun a s' q => ok_lft.mp q, fun h => h.imp fun a s' q => ok_lft.mpr q⟩
theorem en_L {xs : List PV} {R : List PV → Prop} : (∃ ys, enumP (.lst xs) = some ys ∧ R ys) ↔ R (enumL 0 xs) := ⟨fun ⟨_, e, h⟩ => by cases e; exact h, fun h => ⟨_, rfl, h⟩⟩
theorem en_T {xs : List PV} {R : List PV → Prop} : (∃ ys, enumP (.tup xs) = some ys ∧ R ys) ↔ R (enumL 0 xs) := ⟨fun ⟨_, e, h⟩ => by cases e; exact h, fun h => ⟨_, rfl, h⟩⟩
theorem ok_for2 {body : M Fl} {xs : List PV} {Q : Fl → S → Prop} (I : Nat → S → Prop) (h0 : I 0 s) (hs : ∀ (k : Nat) (x : PV) (s : S), xs[k]? = some x → I k s → ∃ a b, x = .tup [a, b] ∧ Okx E body ⟨(s.env.set i (some (.val a))).set j (some (.val b)), s.sto⟩ (fun fl s' => flK Q (I (k + 1)) s' fl)) (hd : ∀ s, I xs.length s → Q .nx s) : Okx E (forU [i, j] body xs) s Q := by
  have key : ∀ (ys : List PV) (k : Nat) (s : S), xs.drop k = ys → k + ys.length = xs.length → I k s → Okx E (forU [i, j] body ys) s Q := by
    intro ys
    induction ys with
    | nil =>
      intro k s e hl hI
      have hk : k = xs.length := by simpa using hl
      subst hk
      exact hd s hI
    | cons y ys ih =>
      intro k s e hl hI
      have hk : k < xs.length := by simp at hl; omega
      have e' := List.drop_eq_getElem_cons hk
      rw [e] at e'
      obtain ⟨e1, e2⟩ := List.cons.inj e'
      have hg : xs[k]? = some y := by rw [e1]; exact List.getElem?_eq_getElem hk
      obtain ⟨a, b, rfl, hb⟩ := hs k y s hg hI
      have e0 : setAll [i, j] [a, b] s = .ok .nx ⟨(s.env.set i (some (.val a))).set j (some (.val b)), s.sto⟩ := rfl
      rcases hb.two with ⟨fl, s', eb, q⟩ | ⟨z, s', eb, q⟩
      case' inr =>
        unfold Okx forU
        simp only [List.length_cons, List.length_nil, if_true, e0, eb]
        exact q
      unfold Okx forU
      simp only [List.length_cons, List.length_nil, if_true, e0]
      cases fl with
      | nx => simp only [eb]; exact ih (k + 1) s' e2.symm (by simp at hl; omega) q
      | ct => simp only [eb]; exact ih (k + 1) s' e2.symm (by simp at hl; omega) q
      | bk => simp only [eb]; exact q
      | rt d => simp only [eb]; exact q
      | ro d => simp only [eb]; exact q
  exact key xs 0 s rfl (by simp) h0
theorem ok_starA : Okx E (starA i ra) s QL ↔ Okx E ra s (fun ds s1 => (i ≤ ds.length ∧ ds.length - i ≤ sizeLine) ∧ QL (ds.take i ++ [.tup (ds.drop i)]) s1) := by
  unfold starA
  rw [ok_bnd]
  have key : ∀ (a : List PV) (s : S), Okx E (if i ≤ a.length ∧ a.length - i ≤ sizeLine then ret (a.take i ++ [.tup (a.drop i)]) else stuck) s QL ↔ (i ≤ a.length ∧ a.length - i ≤ sizeLine) ∧ QL (a.take i ++ [.tup (a.drop i)]) s := fun a s => by
    by_cases h : i ≤ a.length ∧ a.length - i ≤ sizeLine
    · rw [if_pos h]; exact ⟨fun q => ⟨h, q⟩, fun q => q.2⟩
    · rw [if_neg h]; exact ⟨fun q => q.elim, fun q => (h q.1).elim⟩
  exact ⟨fun h => h.imp fun a s1 q => (key a s1).mp q, fun h => h.imp fun a s1 q => (key a s1).mpr q⟩
theorem ok_eqL {xs : List PV} : Okx E (lft (eqLP (.lst xs) (.lst []))) s Q ↔ Q (.bl xs.isEmpty) s := Iff.rfl
theorem ok_bop {tab : List (Str × Fn)} {oth : List Str} {bl : List String} {old : PV → PV → M PV} {c c2 : Str} {ks ks2 : List Str} {vs vs2 : List PV} (ht : tab.lookup c = some m) (hc : c2 = c ∨ c2 ∈ oth) : Okx E (bopO tab oth bl n old (.obj c ks vs) (.obj c2 ks2 vs2)) s Q ↔ Okx E (runM m n [.obj c ks vs, .obj c2 ks2 vs2]) s Q := by
  unfold bopO Okx
  simp only [insOf_obj, ht, if_pos hc]
end
end Dn
/-! Pl9: plain answers: len of own instances. -/
namespace Dn
open PySem
/-! ### plain -/
end Dn
/-! Pt: plain answers of the rules of Tr1, Dt1 .. Dt5. -/
namespace Dn
open PySem
open L2 hiding bin
section
variable {E : PV → S → Prop} {EF : PV → List MO → Prop} {s : S} {Q : PV → S → Prop} {QL : List PV → S → Prop} {QF : Fl → S → Prop} {QB : Bool → S → Prop} {QK : List (L2.Key × PV) → S → Prop} {n i : Nat} {env : Env} {st : List MO} {ca cb cc cd ck cv : M PV} {tab : List (Str × Fn)} {xs : List PV} {v d a b : PV}
/-! ### a def's own handles dropped -/
theorem okF_fnF {np nn n : Nat} {body : Nat → M Fl} {ds : List PV} {Q : PV → List MO → Prop} (hl : ds.length = np)
    (h : Okx (fun e s => EF e s.sto) (body n) ⟨ds.map (fun d => some (SV.val d)) ++ List.replicate (nn - np) none, st⟩ (fun fl s => rtK Q s fl)) : OkFx EF (fnQ false np nn body n ds st) Q := okF_fn hl h
/-! a value that names no handle at all -/
/-! ### items -/
/-! ### a[b] -/
/-! ### a in b -/
/-! ### dicts -/
/-! ### sorted, min, len -/
/-! ### lists -/
/-! ### < of ints or texts -/
/-! ### instances made -/
end
end Dn
/-! So3: sorted of rows: what it answers. -/
namespace Dn
open PySem L2
end Dn
/-! So9: plain rules of So8. -/
namespace Dn
open PySem L2 ClX StX NdefX PySem.Spec PyProof.Rows
end Dn
/-! So13: plain rules of get with a default and of != of dicts. -/
namespace Dn
open PySem L2 ClX StX NdefX PySem.Spec PyProof.Rows
end Dn
/-! So16: plain rules of So14, So15. -/
namespace Dn
open PySem
open L2 hiding bin
section
variable {E : PV → S → Prop} {s : S} {Q : Fl → S → Prop} {QP : PV → S → Prop} {QL : List PV → S → Prop} {ca cc : M PV} {cb cd ce : M (List PV)} {i j k n : Nat} {env : Dn.Env} {st : List MO} {xs ys : List PV} {m : FnL}
theorem ok_slO {lo hi : M (Option Int)} : Okx E (slO ca lo hi) s QL ↔ Okx E ca s (fun d s1 => Okx E lo s1 (fun a s2 => Okx E hi s2 (fun b s3 => lstK (fun xs => QL (cutP xs a b) s3) d))) := by
  have key : ∀ (d : PV) (a b : Option Int) (s : S), Okx E (lft (match d with | .lst xs => some (cutP xs a b) | _ => none)) s QL ↔ lstK (fun xs => QL (cutP xs a b) s) d := fun d a b s => by
    rw [ok_lft]
    cases d with
    | lst xs => exact ⟨fun ⟨_, e, q⟩ => by cases e; exact q, fun q => ⟨_, rfl, q⟩⟩
    | _ => exact ⟨fun ⟨_, e, _⟩ => (by cases e), fun h => h.elim⟩
  unfold slO
  rw [ok_bnd]
  exact ⟨fun h => h.imp fun d s1 q => (ok_bnd.mp q).imp fun a s2 q => (ok_bnd.mp q).imp fun b s3 q => (key d a b s3).mp q, fun h => h.imp fun d s1 q => ok_bnd.mpr (q.imp fun a s2 q => ok_bnd.mpr (q.imp fun b s3 q => (key d a b s3).mpr q))⟩
def OkFOx (E : PV → List MO → Prop) (r : Res (List MO) (List PV)) (Q : List PV → List MO → Prop) : Prop := match r with
  | .ok d st => Q d st
  | .exc e st => E e st
  | .stk => False
theorem OkFOx.imp {EF : PV → List MO → Prop} {r : Res (List MO) (List PV)} {Q Q' : List PV → List MO → Prop} (h : OkFOx EF r Q) (f : ∀ d st, Q d st → Q' d st) : OkFOx EF r Q' := by
  cases r with
  | ok d st => exact f d st h
  | exc => exact h
  | stk => exact h
/-! ### three names at once -/
/-! ### extend, len of a set -/
end
end Dn
/-! So17: d.clear() (plain rules). -/
namespace Dn
open PySem
open L2 hiding bin
end Dn
set_option maxHeartbeats 4000000
/-! So18: list(range(n)); o.m( *e) of a method with a star parameter alone. -/
namespace Dn
open PySem L2 ClX StX NdefX PySem.Spec PyProof.Rows
end Dn
set_option maxHeartbeats 4000000
/-! So19: zip of two lists, or of two tuples, as a source. -/
namespace Dn
open PySem L2 ClX StX NdefX PySem.Spec PyProof.Rows
end Dn
namespace Lw
open PySem Dn PySem.Spec PyProof.Rows ClX StX NdefX
open L2 hiding bin
structure Zt (P : Program) (K : PySem.W.Frag) (mg : Str → Option Value) : Prop where
  b_list : mg "list" = none
  fn_law_pen : FnP K mg "_law_pen" s_law_pen ["_law_script"]
  b_range : mg "range" = none
  b_int : mg "int" = none
  b_len : mg "len" = none
  b_abs : mg "abs" = none
  fn_law_draw : FnP K mg "_law_draw" s_law_draw ["_law_pen_here", "_law_many"]
  fn_law_pick : FnP K mg "_law_pick" s_law_pick ["_law_pen_here", "_law_some"]
  fn_law_names : FnP K mg "_law_names" s_law_names ["_law_pen_here", "_law_many"]
  fn_law_digits : FnP K mg "_law_digits" s_law_digits ["_law_pen_here", "_law_many"]
  b_min : mg "min" = none
  fn_law_row : FnP K mg "_law_row" s_law_row ["_law_pen_here", "_law_label", "_law_start", "_law_end"]
  fn_law_chain : FnP K mg "_law_chain" s_law_chain ["_law_pen_here", "_law_size"]
  gs_ALPHABET : StrP mg "ALPHABET" "abcdefghijklmnopqrstuvwxyz"
  b_all : mg "all" = none
  gi_LETTERS : IntP mg "LETTERS" 8
  b_isinstance : mg "isinstance" = none
  b_str : mg "str" = none
  fn_is_name : FnP K mg "is_name" s_is_name ["value"]
  fn_need_name : FnP K mg "need_name" s_need_name ["value"]
  b_tuple : mg "tuple" = none
  b_bool : mg "bool" = none
  fk_is_integer_1_least_most : FnKP K mg "is_integer" s_is_integer ["value", "least", "most"] 1 ["least", "most"]
  ca_Office_RATE : CatP K mg "Office" "RATE" 9
  fn_is_rate : FnP K mg "is_rate" s_is_rate ["value"]
  fk_need_integer_1_least_most : FnKP K mg "need_integer" s_need_integer ["value", "least", "most"] 1 ["least", "most"]
  co_FEE : ConOk K "FEE" 20 ["Office", "CappedOffice"]
  co_LEAST : ConOk K "LEAST" 1000 ["Office", "CappedOffice"]
  fo_name : FldOk K "name" ["Office", "CappedOffice"]
  fo_own_ends : FldOk K "own_ends" ["Office", "CappedOffice"]
  fo_own_rate : FldOk K "own_rate" ["Office", "CappedOffice"]
  fo_own_fee : FldOk K "own_fee" ["Office", "CappedOffice"]
  fo_own_least : FldOk K "own_least" ["Office", "CappedOffice"]
  mk_Office_4_fee_least : MkP K mg "Office" "Office.__init__" s_Office_init ["self", "name", "source", "goal", "rate", "fee", "least"] 4 ["fee", "least"]
  su_CappedOffice_CappedOffice_init_5_fee_least : SupP K "CappedOffice" "CappedOffice" "__init__" "Office.__init__" s_Office_init ["self", "name", "source", "goal", "rate", "fee", "least"] 5 ["fee", "least"]
  co_MOST : ConOk K "MOST" 1000000 ["CappedOffice"]
  fo_own_most : FldOk K "own_most" ["CappedOffice"]
  mk_CappedOffice_4_most_fee_least : MkS P K mg "CappedOffice" "CappedOffice.__init__" "CappedOffice" s_CappedOffice_init ["self", "name", "source", "goal", "rate", "most", "fee", "least"] 4 ["most", "fee", "least"]
  fn_law_made : FnP K mg "_law_made" s_law_made ["_law_row_here"]
  is_Office : ∃ D, mg "Office" = some (.ref D) ∧ IsoTab K D [("Office", true), ("CappedOffice", true), ("Route", false)]
  b_enumerate : mg "enumerate" = none
  pp_CappedOffice_source : PrpP K "CappedOffice" "source" "Office.source" s_Office_source
  pp_Office_source : PrpP K "Office" "source" "Office.source" s_Office_source
  pp_CappedOffice_goal : PrpP K "CappedOffice" "goal" "Office.goal" s_Office_goal
  pp_Office_goal : PrpP K "Office" "goal" "Office.goal" s_Office_goal
  co_LENGTH : ConOk K "LENGTH" 1000 ["Route"]
  fo_own_start : FldOk K "own_start" ["Route"]
  fo_own_end : FldOk K "own_end" ["Route"]
  fo_own_offices : FldOk K "own_offices" ["Route"]
  mv_Route : MkVP K mg "Route" "Route.__init__" s_Route_init ["self", "start"] "offices"
  bo_Route_add : BopP K "Route" "add" "__add__" "Route.__add__" s_Route_add ["self", "other"]
  ot_Route_CappedOffice_add : OthP K "Route" "CappedOffice" "add"
  ot_Route_Office_add : OthP K "Route" "Office" "add"
  bb_Route_add : BopB K "Route" "add" []
  fn_law_route : FnP K mg "_law_route" s_law_route ["_law_start", "_law_rows"]
  b_max : mg "max" = none
  fn_law_amount : FnP K mg "_law_amount" s_law_amount ["_law_pen_here", "_law_row_here"]
  fn_law_route_amount : FnP K mg "_law_route_amount" s_law_route_amount ["_law_pen_here", "_law_rows"]
  fn_law_is_plain : FnP K mg "_law_is_plain" s_law_is_plain ["_law_rows", "_law_amount_here"]
  gi_COINS : IntP mg "COINS" 1000000000000000000000000000000
  fn_need_amount : FnP K mg "need_amount" s_need_amount ["value"]
  su_CappedOffice_CappedOffice_result_2 : SupP K "CappedOffice" "CappedOffice" "result" "Office.result" s_Office_result ["self", "coins"] 2 []
  me_CappedOffice_result_2 : MthS P K mg "CappedOffice" "result" "CappedOffice.result" "CappedOffice" s_CappedOffice_result ["self", "coins"] 2 []
  me_Office_result_2 : MthP K "Office" "result" "Office.result" s_Office_result ["self", "coins"] 2 []
  me_Route_result_2 : MthP K "Route" "result" "Route.result" s_Route_result ["self", "coins"] 2 []
  ex_Closed : ExcP K mg "Closed" "Closed.__init__" "name" "name" s_Closed_init "RuntimeError" "RuntimeError.__new__" "RuntimeError.__init__" [.type "RuntimeError", .type "Exception", .type "BaseException", .type "object"]
  b_RuntimeError : mg "RuntimeError" = none
  nostop : Gn.NoStops K ["Closed"]
  me_Route_holdings_2 : MthP K "Route" "holdings" "Route.holdings" s_Route_holdings ["self", "amount"] 2 []
  in_Route_2 : InsP K "Route" "Route.__call__" s_Route_call ["self", "amount"] 2
  in_CappedOffice_2 : InsP K "CappedOffice" "Office.__call__" s_Office_call ["self", "amount"] 2
  in_Office_2 : InsP K "Office" "Office.__call__" s_Office_call ["self", "amount"] 2
section
variable {P : Program} {w : World} {K : PySem.W.Frag} {mg : Str → Option Value} {base : Heap}
/-! ### _law_pen: 0 _law_script -/
theorem sc_law_pen : FnScope ["_law_script"] ["_law_script"] (defScope s_law_pen) := ⟨rfl, rfl, rfl, by decide +kernel, rfl, by decide +kernel, by decide +kernel⟩
noncomputable def b_law_pen (n : Nat) : M Fl :=
  (retM (dispM (("cells", (lstM (bnd (slM (var 0) parN (parS (ret (.int 63)))) fList))) :: ("place", (ret (.int 0))) :: ("rest", (ret (.int 0))) :: [])))
noncomputable def m_law_pen : Fn := fnQ false 1 1 b_law_pen
set_option maxHeartbeats 4000000 in
theorem pr_law_pen (Z : Zt P K mg) : Pr P w K mg base 1 "_law_pen" "_law_pen" s_law_pen ["_law_script"] m_law_pen :=
  prF (pr_mk sc_law_pen (by decide) fun f cdv A outer s H E n hgd hr tk ow => by
    have nd := sc_law_pen.nd
    have hu := roomU hr
    exact (bone (sret (xdisp (kC (xo (olist Z.b_list (xsl (xv 0) qN (qS xint)))) (kC xint (kC xint kN)))))))
/-! ### _law_draw: 0 _law_pen_here, 1 _law_many, 2 _law_digit, 3 _law_place, 4 _law_cell, 5 _law_primes, 6 _law_mix -/
theorem sc_law_draw : FnScope ["_law_pen_here", "_law_many", "_law_digit", "_law_place", "_law_cell", "_law_primes", "_law_mix"] ["_law_pen_here", "_law_many"] (defScope s_law_draw) := ⟨rfl, rfl, rfl, by decide +kernel, rfl, by decide +kernel, by decide +kernel⟩
noncomputable def b_law_draw (n : Nat) : M Fl :=
  (seqM (ifM (asB (bin (bin (var 0) (ret (.str "rest")) hgetP) (ret (.int 0)) opGt)) (seqM (asgM 2 (bin (bnd (bin (var 0) (ret (.str "rest")) hgetP) fInt) (var 1) opMod))
    (seqM (hputM (var 0) (ret (.str "rest")) (bin (bin (var 0) (ret (.str "rest")) hgetP) (var 1) opDiv))
    (retM (var 2)))) skipM)
    (seqM (asgM 3 (bin (var 0) (ret (.str "place")) hgetP))
    (seqM (hputM (var 0) (ret (.str "place")) (bin (var 3) (ret (.int 1)) opAdd))
    (seqM (asgM 4 (bin (bin (ret (.int 43)) (var 3) opMul) (ret (.int 19)) opAdd))
    (seqM (ifM (asB (bin (bin (var 0) (ret (.str "cells")) hgetP) (lstM (fits argN)) opNe)) (asgM 4 (bin (bin (var 0) (ret (.str "cells")) hgetP) (bin (bnd (var 3) fInt) (bnd (bin (var 0) (ret (.str "cells")) hgetP) fLen) opMod) opIx)) skipM)
    (seqM (ifM (andT (asB (bin (var 3) (bnd (bin (var 0) (ret (.str "cells")) hgetP) fLen) opLt)) (asB (bin (bnd (var 4) fAbs) (bin (ret (.int 10)) (ret (.int 18)) opPow) opGe))) (seqM (hputM (var 0) (ret (.str "rest")) (bin (bin (bnd (var 4) fAbs) (bin (ret (.int 10)) (ret (.int 18)) opPow) opSub) (var 1) opDiv))
    (retM (bin (bin (bnd (var 4) fAbs) (bin (ret (.int 10)) (ret (.int 18)) opPow) opSub) (var 1) opMod))) skipM)
    (seqM (asgM 5 (lstM (fits (argC (ret (.int 2147483647)) (argC (ret (.int 2147483629)) (argC (ret (.int 2147483587)) (argC (ret (.int 2147483579)) (argC (ret (.int 2147483563)) (argC (ret (.int 2147483549)) (argC (ret (.int 2147483543)) argN))))))))))
    (seqM (asgM 6 (bin (bin (bin (bnd (var 4) fInt) (bin (var 5) (bin (bnd (var 3) fInt) (ret (.int 7)) opMod) opIx) opMod) (ret (.int 48271)) opMul) (bin (bin (ret (.int 40961)) (var 3) opMul) (var 3) opMul) opAdd))
    (seqM (asgM 6 (bin (bnd (bin (bin (var 6) (bin (ret (.int 12289)) (var 3) opMul) opAdd) (ret (.int 37)) opAdd) fInt) (bin (var 5) (bin (bnd (var 3) fInt) (ret (.int 7)) opMod) opIx) opMod))
    (seqM (asgM 6 (bin (bnd (bin (bin (bin (bin (var 6) (var 6) opMul) (bin (ret (.int 69621)) (var 6) opMul) opAdd) (bin (ret (.int 3)) (var 3) opMul) opAdd) (ret (.int 1)) opAdd) fInt) (bin (var 5) (bin (bnd (bin (var 3) (ret (.int 3)) opAdd) fInt) (ret (.int 7)) opMod) opIx) opMod))
    (retM (bin (bnd (bin (bin (bnd (bin (var 6) (bin (var 6) (ret (.int 16811)) opAdd) opMul) fInt) (bin (var 5) (bin (bnd (bin (var 3) (ret (.int 5)) opAdd) fInt) (ret (.int 7)) opMod) opIx) opMod) (ret (.int 64)) opDiv) fInt) (var 1) opMod))))))))))))
noncomputable def m_law_draw : Fn := fnQ false 2 7 b_law_draw
set_option maxHeartbeats 4000000 in
theorem pr_law_draw (Z : Zt P K mg) : Pr P w K mg base 1 "_law_draw" "_law_draw" s_law_draw ["_law_pen_here", "_law_many"] m_law_draw :=
  prF (pr_mk sc_law_draw (by decide) fun f cdv A outer s H E n hgd hr tk ow => by
    have nd := sc_law_draw.nd
    have hu := roomU hr
    exact (bcons (sif (tcmp k_gt (xhget hu (xv 0) xstr) xint) (bcons (sset 2 nd (xmod (xtoint Z.b_int (xhget hu (xv 0) xstr)) (xv 1)))
    (bcons (shput hu (xv 0) xstr (xfdiv (xhget hu (xv 0) xstr) (xv 1)))
    (bone (sret (xv 2))))) bnil)
    (bcons (sset 3 nd (xhget hu (xv 0) xstr))
    (bcons (shput hu (xv 0) xstr (xadd (xv 3) xint))
    (bcons (sset 4 nd (xadd (xmul xint (xv 3)) xint))
    (bcons (sif (tcmp (k_ne hu) (xhget hu (xv 0) xstr) (xo (olst anil))) (bone (sset 4 nd (xix (xhget hu (xv 0) xstr) (xmod (xtoint Z.b_int (xv 3)) (xlen Z.b_len (xhget hu (xv 0) xstr)))))) bnil)
    (bcons (sif (PW.pt (wand (tcmp k_lt (xv 3) (xlen Z.b_len (xhget hu (xv 0) xstr))) (pw_and1 (tcmp k_ge (xabs Z.b_abs (xv 4)) (xpow xint xint))))) (bcons (shput hu (xv 0) xstr (xfdiv (xsub (xabs Z.b_abs (xv 4)) (xpow xint xint)) (xv 1)))
    (bone (sret (xmod (xsub (xabs Z.b_abs (xv 4)) (xpow xint xint)) (xv 1))))) bnil)
    (bcons (sset 5 nd (xo (olst (acons xint (acons xint (acons xint (acons xint (acons xint (acons xint (acons xint anil))))))))))
    (bcons (sset 6 nd (xadd (xmul (xmod (xtoint Z.b_int (xv 4)) (xix (xv 5) (xmod (xtoint Z.b_int (xv 3)) xint))) xint) (xmul (xmul xint (xv 3)) (xv 3))))
    (bcons (sset 6 nd (xmod (xtoint Z.b_int (xadd (xadd (xv 6) (xmul xint (xv 3))) xint)) (xix (xv 5) (xmod (xtoint Z.b_int (xv 3)) xint))))
    (bcons (sset 6 nd (xmod (xtoint Z.b_int (xadd (xadd (xadd (xmul (xv 6) (xv 6)) (xmul xint (xv 6))) (xmul xint (xv 3))) xint)) (xix (xv 5) (xmod (xtoint Z.b_int (xadd (xv 3) xint)) xint))))
    (bone (sret (xmod (xtoint Z.b_int (xfdiv (xmod (xtoint Z.b_int (xmul (xv 6) (xadd (xv 6) xint))) (xix (xv 5) (xmod (xtoint Z.b_int (xadd (xv 3) xint)) xint))) xint)) (xv 1)))))))))))))))
/-! ### _law_pick: 0 _law_pen_here, 1 _law_some -/
theorem sc_law_pick : FnScope ["_law_pen_here", "_law_some"] ["_law_pen_here", "_law_some"] (defScope s_law_pick) := ⟨rfl, rfl, rfl, by decide +kernel, rfl, by decide +kernel, by decide +kernel⟩
noncomputable def b_law_pick (n : Nat) : M Fl :=
  (retM (bin (var 1) (callM m_law_draw n (argC (var 0) (argC (bnd (var 1) fLen) argN))) opIx))
noncomputable def m_law_pick : Fn := fnQ false 2 2 b_law_pick
set_option maxHeartbeats 4000000 in
theorem pr_law_pick (Z : Zt P K mg) : Pr P w K mg base 2 "_law_pick" "_law_pick" s_law_pick ["_law_pen_here", "_law_some"] m_law_pick :=
  prF (pr_mk sc_law_pick (by decide) fun f cdv A outer s H E n hgd hr tk ow => by
    have nd := sc_law_pick.nd
    have hu := roomU hr
    have D_law_draw := df_row (pr_law_draw (P := P) (w := w) (base := base) Z) Z.fn_law_draw rfl
    exact (bone (sret (xix (xv 1) (xdef n D_law_draw hgd hr tk (by decide) (acons (xv 0) (acons (xlen Z.b_len (xv 1)) anil)))))))
/-! ### _law_names: 0 _law_pen_here, 1 _law_many, 2 _law_alphabet, 3 _law_stem, 4 _law_at, 5 _law_first, 6 _law_cut, 7 _law_step, 8 _law_found, 9 _law_k, 10 _law_tail, 11 _law_letter, 12 _law_place -/
theorem sc_law_names : FnScope ["_law_pen_here", "_law_many", "_law_alphabet", "_law_stem", "_law_at", "_law_first", "_law_cut", "_law_step", "_law_found", "_law_k", "_law_tail", "_law_letter", "_law_place"] ["_law_pen_here", "_law_many"] (defScope s_law_names) := ⟨rfl, rfl, rfl, by decide +kernel, rfl, by decide +kernel, by decide +kernel⟩
noncomputable def b_law_names (n : Nat) : M Fl :=
  (seqM (asgM 2 (ret (.str "abcdefghijklmnopqrstuvwxyz")))
    (seqM (asgM 3 (joinM (ret (.str "")) (lstM (lcM (rngM (callM m_law_draw n (argC (var 0) (argC (ret (.int 8)) argN)))) 12 [12] (ret true) (callM m_law_pick n (argC (var 0) (argC (var 2) argN)))))))
    (seqM (par3 4 5 6 (callM m_law_draw n (argC (var 0) (argC (bin (bnd (var 3) fLen) (ret (.int 1)) opAdd) argN))) (callM m_law_draw n (argC (var 0) (argC (ret (.int 26)) argN))) (callM m_law_draw n (argC (var 0) (argC (ret (.int 3)) argN))))
    (seqM (par2VO 7 8 (callM m_law_pick n (argC (var 0) (argC (lstM (fits (argC (ret (.int 1)) (argC (ret (.int 3)) (argC (ret (.int 5)) (argC (ret (.int 7)) (argC (ret (.int 9)) (argC (ret (.int 11)) (argC (ret (.int 15)) (argC (ret (.int 17)) (argC (ret (.int 19)) (argC (ret (.int 21)) (argC (ret (.int 23)) (argC (ret (.int 25)) argN)))))))))))))) argN))) (fits argN))
    (seqM (loopM (rngM (var 1)) 9 (seqM (asgM 10 (iteT (asB (bin (var 6) (ret (.int 2)) opLt)) (slM (var 3) (parS (var 4)) parN) (slM (slM (var 3) (parS (var 4)) parN) parN (parS (bin (bnd (var 9) fInt) (ret (.int 3)) opMod)))))
    (seqM (asgM 11 (bin (var 2) (bin (bnd (bin (var 5) (bin (var 7) (var 9) opMul) opAdd) fInt) (ret (.int 26)) opMod) opIx))
    (dropM (appM 8 (bin (bin (slM (var 3) parN (parS (var 4))) (var 11) opAdd) (var 10) opAdd))))))
    (retM (var 8)))))))
noncomputable def m_law_names : Fn := fnQ false 2 13 b_law_names
set_option maxHeartbeats 4000000 in
theorem pr_law_names (Z : Zt P K mg) : Pr P w K mg base 3 "_law_names" "_law_names" s_law_names ["_law_pen_here", "_law_many"] m_law_names :=
  prF (pr_mk sc_law_names (by decide) fun f cdv A outer s H E n hgd hr tk ow => by
    have nd := sc_law_names.nd
    have hu := roomU hr
    have D_law_draw := df_row (pr_law_draw (P := P) (w := w) (base := base) Z) Z.fn_law_draw rfl
    have D_law_pick := df_row (pr_law_pick (P := P) (w := w) (base := base) Z) Z.fn_law_pick rfl
    exact (bcons (sset 2 nd xstr)
    (bcons (sset 3 nd (xjoin xstr (xo (olc 12 (own := [("_law_place", 12)]) rfl nd (irng Z.b_range (xdef n D_law_draw hgd hr tk (by decide) (acons (xv 0) (acons xint anil)))) src_rng (blkOk_by (by kernel_rfl)) (by decide) (fun _ _ _ _ _ => pg_name (i := 12) nd rfl (by first | exact Or.inl rfl | exact Or.inr rfl)) (fun _ _ _ _ _ => tsN) (fun _ _ _ _ _ => (xdef n D_law_pick hgd hr takesF (by decide) (acons (xv 0) (acons (xv 2) anil))))))))
    (bcons (spar3 4 5 6 rfl nd (xdef n D_law_draw hgd hr tk (by decide) (acons (xv 0) (acons (xadd (xlen Z.b_len (xv 3)) xint) anil))) (xdef n D_law_draw hgd hr tk (by decide) (acons (xv 0) (acons xint anil))) (xdef n D_law_draw hgd hr tk (by decide) (acons (xv 0) (acons xint anil))))
    (bcons (spar2VO 7 8 rfl nd (xdef n D_law_pick hgd hr tk (by decide) (acons (xv 0) (acons (xo (olst (acons xint (acons xint (acons xint (acons xint (acons xint (acons xint (acons xint (acons xint (acons xint (acons xint (acons xint (acons xint anil)))))))))))))) anil))) (olst anil))
    (bcons (sfor 9 rfl nd ow (irng Z.b_range (xv 1)) src_rng (bcons (sset 10 nd (xif (tcmp k_lt (xv 6) xint) (xsl (xv 3) (qS (xv 4)) qN) (xsl (xsl (xv 3) (qS (xv 4)) qN) qN (qS (xmod (xtoint Z.b_int (xv 9)) xint)))))
    (bcons (sset 11 nd (xix (xv 2) (xmod (xtoint Z.b_int (xadd (xv 5) (xmul (xv 7) (xv 9)))) xint)))
    (bone (sexpr (xapp 8 (xadd (xadd (xsl (xv 3) qN (qS (xv 4))) (xv 11)) (xv 10))))))))
    (bone (sret (xv 8)))))))))
/-! ### _law_digits: 0 _law_pen_here, 1 _law_many, 2 _law_found, 3 _law_place -/
theorem sc_law_digits : FnScope ["_law_pen_here", "_law_many", "_law_found", "_law_place"] ["_law_pen_here", "_law_many"] (defScope s_law_digits) := ⟨rfl, rfl, rfl, by decide +kernel, rfl, by decide +kernel, by decide +kernel⟩
noncomputable def b_law_digits (n : Nat) : M Fl :=
  (seqM (asgM 2 (ret (.int 0)))
    (seqM (loopM (rngM (var 1)) 3 (asgM 2 (bin (bin (ret (.int 10)) (var 2) opMul) (callM m_law_draw n (argC (var 0) (argC (ret (.int 10)) argN))) opAdd)))
    (retM (var 2))))
noncomputable def m_law_digits : Fn := fnQ false 2 4 b_law_digits
set_option maxHeartbeats 4000000 in
theorem pr_law_digits (Z : Zt P K mg) : Pr P w K mg base 2 "_law_digits" "_law_digits" s_law_digits ["_law_pen_here", "_law_many"] m_law_digits :=
  prF (pr_mk sc_law_digits (by decide) fun f cdv A outer s H E n hgd hr tk ow => by
    have nd := sc_law_digits.nd
    have hu := roomU hr
    have D_law_draw := df_row (pr_law_draw (P := P) (w := w) (base := base) Z) Z.fn_law_draw rfl
    exact (bcons (sset 2 nd xint)
    (bcons (sfor 3 rfl nd ow (irng Z.b_range (xv 1)) src_rng (bone (sset 2 nd (xadd (xmul xint (xv 2)) (xdef n D_law_draw hgd hr tk (by decide) (acons (xv 0) (acons xint anil)))))))
    (bone (sret (xv 2))))))
/-! ### _law_row: 0 _law_pen_here, 1 _law_label, 2 _law_start, 3 _law_end, 4 _law_ratio, 5 _law_cost, 6 _law_low, 7 _law_high -/
theorem sc_law_row : FnScope ["_law_pen_here", "_law_label", "_law_start", "_law_end", "_law_ratio", "_law_cost", "_law_low", "_law_high"] ["_law_pen_here", "_law_label", "_law_start", "_law_end"] (defScope s_law_row) := ⟨rfl, rfl, rfl, by decide +kernel, rfl, by decide +kernel, by decide +kernel⟩
noncomputable def b_law_row (n : Nat) : M Fl :=
  (seqM (asgM 4 (tupM (argC (bin (ret (.int 1)) (callM m_law_draw n (argC (var 0) (argC (ret (.int 9)) argN))) opAdd) (argC (bin (ret (.int 1)) (callM m_law_draw n (argC (var 0) (argC (ret (.int 9)) argN))) opAdd) argN))))
    (seqM (asgM 5 (callM m_law_pick n (argC (var 0) (argC (lstM (fits (argC (ret (.int 0)) (argC (ret (.int 0)) (argC (ret (.int 1)) (argC (callM m_law_draw n (argC (var 0) (argC (ret (.int 21)) argN))) (argC (ret (.int 20)) argN))))))) argN))))
    (seqM (asgM 6 (callM m_law_pick n (argC (var 0) (argC (lstM (fits (argC (ret (.int 0)) (argC (ret (.int 0)) (argC (ret (.int 1)) (argC (callM m_law_draw n (argC (var 0) (argC (ret (.int 30)) argN))) (argC (callM m_law_draw n (argC (var 0) (argC (ret (.int 1001)) argN))) (argC (ret (.int 1000)) argN)))))))) argN))))
    (seqM (asgM 7 (ret .non))
    (seqM (ifM (asB (bin (callM m_law_draw n (argC (var 0) (argC (ret (.int 4)) argN))) (ret (.int 0)) opEq)) (asgM 7 (bin (bin (ret (.int 10)) (ret (.int 6)) opPow) (bin (var 6) (callM m_law_pick n (argC (var 0) (argC (lstM (fits (argC (ret (.int 0)) (argC (ret (.int 1)) (argC (callM m_law_draw n (argC (var 0) (argC (ret (.int 100)) argN))) (argC (callM m_law_digits n (argC (var 0) (argC (ret (.int 6)) argN))) (argC (bin (ret (.int 10)) (ret (.int 6)) opPow) argN))))))) argN))) opAdd) opMin)) skipM)
    (retM (tupM (argC (var 1) (argC (var 2) (argC (var 3) (argC (var 4) (argC (var 5) (argC (var 6) (argC (var 7) argN))))))))))))))
noncomputable def m_law_row : Fn := fnQ false 4 8 b_law_row
set_option maxHeartbeats 4000000 in
theorem pr_law_row (Z : Zt P K mg) : Pr P w K mg base 3 "_law_row" "_law_row" s_law_row ["_law_pen_here", "_law_label", "_law_start", "_law_end"] m_law_row :=
  prF (pr_mk sc_law_row (by decide) fun f cdv A outer s H E n hgd hr tk ow => by
    have nd := sc_law_row.nd
    have hu := roomU hr
    have D_law_draw := df_row (pr_law_draw (P := P) (w := w) (base := base) Z) Z.fn_law_draw rfl
    have D_law_pick := df_row (pr_law_pick (P := P) (w := w) (base := base) Z) Z.fn_law_pick rfl
    have D_law_digits := df_row (pr_law_digits (P := P) (w := w) (base := base) Z) Z.fn_law_digits rfl
    exact (bcons (sset 4 nd (xtup (acons (xadd xint (xdef n D_law_draw hgd hr tk (by decide) (acons (xv 0) (acons xint anil)))) (acons (xadd xint (xdef n D_law_draw hgd hr tk (by decide) (acons (xv 0) (acons xint anil)))) anil))))
    (bcons (sset 5 nd (xdef n D_law_pick hgd hr tk (by decide) (acons (xv 0) (acons (xo (olst (acons xint (acons xint (acons xint (acons (xdef n D_law_draw hgd hr tk (by decide) (acons (xv 0) (acons xint anil))) (acons xint anil))))))) anil))))
    (bcons (sset 6 nd (xdef n D_law_pick hgd hr tk (by decide) (acons (xv 0) (acons (xo (olst (acons xint (acons xint (acons xint (acons (xdef n D_law_draw hgd hr tk (by decide) (acons (xv 0) (acons xint anil))) (acons (xdef n D_law_draw hgd hr tk (by decide) (acons (xv 0) (acons xint anil))) (acons xint anil)))))))) anil))))
    (bcons (sset 7 nd xnon)
    (bcons (sif (tcmp (k_eq hu) (xdef n D_law_draw hgd hr tk (by decide) (acons (xv 0) (acons xint anil))) xint) (bone (sset 7 nd (xmin2 rfl Z.b_min (xpow xint xint) (xadd (xv 6) (xdef n D_law_pick hgd hr tk (by decide) (acons (xv 0) (acons (xo (olst (acons xint (acons xint (acons (xdef n D_law_draw hgd hr tk (by decide) (acons (xv 0) (acons xint anil))) (acons (xdef n D_law_digits hgd hr tk (by decide) (acons (xv 0) (acons xint anil))) (acons (xpow xint xint) anil))))))) anil))))))) bnil)
    (bone (sret (xtup (acons (xv 1) (acons (xv 2) (acons (xv 3) (acons (xv 4) (acons (xv 5) (acons (xv 6) (acons (xv 7) anil))))))))))))))))
/-! ### _law_chain: 0 _law_pen_here, 1 _law_size, 2 _law_currencies, 3 _law_names_here, 4 _law_here, 5 _law_rows, 6 _law_place, 7 _law_goal -/
theorem sc_law_chain : FnScope ["_law_pen_here", "_law_size", "_law_currencies", "_law_names_here", "_law_here", "_law_rows", "_law_place", "_law_goal"] ["_law_pen_here", "_law_size"] (defScope s_law_chain) := ⟨rfl, rfl, rfl, by decide +kernel, rfl, by decide +kernel, by decide +kernel⟩
noncomputable def b_law_chain (n : Nat) : M Fl :=
  (seqM (par2 2 3 (callM m_law_names n (argC (var 0) (argC (ret (.int 4)) argN))) (callM m_law_names n (argC (var 0) (argC (ret (.int 20)) argN))))
    (seqM (par2VO 4 5 (bin (var 2) (ret (.int 0)) opIx) (fits argN))
    (seqM (loopM (rngM (var 1)) 6 (seqM (asgM 7 (callM m_law_pick n (argC (var 0) (argC (var 2) argN))))
    (seqM (dropM (appM 5 (callM m_law_row n (argC (var 0) (argC (callM m_law_pick n (argC (var 0) (argC (var 3) argN))) (argC (var 4) (argC (var 7) argN)))))))
    (asgM 4 (var 7)))))
    (retM (tupM (argC (bin (var 2) (ret (.int 0)) opIx) (argC (var 5) argN)))))))
noncomputable def m_law_chain : Fn := fnQ false 2 8 b_law_chain
set_option maxHeartbeats 4000000 in
theorem pr_law_chain (Z : Zt P K mg) : Pr P w K mg base 4 "_law_chain" "_law_chain" s_law_chain ["_law_pen_here", "_law_size"] m_law_chain :=
  prF (pr_mk sc_law_chain (by decide) fun f cdv A outer s H E n hgd hr tk ow => by
    have nd := sc_law_chain.nd
    have hu := roomU hr
    have D_law_names := df_row (pr_law_names (P := P) (w := w) (base := base) Z) Z.fn_law_names rfl
    have D_law_pick := df_row (pr_law_pick (P := P) (w := w) (base := base) Z) Z.fn_law_pick rfl
    have D_law_row := df_row (pr_law_row (P := P) (w := w) (base := base) Z) Z.fn_law_row rfl
    exact (bcons (spar2 2 3 rfl nd (xdef n D_law_names hgd hr tk (by decide) (acons (xv 0) (acons xint anil))) (xdef n D_law_names hgd hr tk (by decide) (acons (xv 0) (acons xint anil))))
    (bcons (spar2VO 4 5 rfl nd (xix (xv 2) xint) (olst anil))
    (bcons (sfor 6 rfl nd ow (irng Z.b_range (xv 1)) src_rng (bcons (sset 7 nd (xdef n D_law_pick hgd hr tk (by decide) (acons (xv 0) (acons (xv 2) anil))))
    (bcons (sexpr (xapp 5 (xdef n D_law_row hgd hr tk (by decide) (acons (xv 0) (acons (xdef n D_law_pick hgd hr tk (by decide) (acons (xv 0) (acons (xv 3) anil))) (acons (xv 4) (acons (xv 7) anil)))))))
    (bone (sset 4 nd (xv 7))))))
    (bone (sret (xtup (acons (xix (xv 2) xint) (acons (xv 5) anil)))))))))
/-! ### is_name: 0 value, 1 letter -/
theorem sc_is_name : FnScope ["value", "letter"] ["value"] (defScope s_is_name) := ⟨rfl, rfl, rfl, by decide +kernel, rfl, by decide +kernel, by decide +kernel⟩
noncomputable def b_is_name (n : Nat) : M Fl :=
  (retM (andV (bnd (var 0) (fIsi "str")) (andV (chainM opLt opLe (ret (.int 0)) (bnd (var 0) fLen) (ret (.int 8))) (bnd (lstM (lcM (itemsM (var 0)) 1 [1] (ret true) (bin (var 1) (ret (.str "abcdefghijklmnopqrstuvwxyz")) opIn))) fAll))))
noncomputable def m_is_name : Fn := fnQ false 1 2 b_is_name
set_option maxHeartbeats 4000000 in
theorem pr_is_name (Z : Zt P K mg) : Pr P w K mg base 1 "is_name" "is_name" s_is_name ["value"] m_is_name :=
  prF (pr_mk sc_is_name (by decide) fun f cdv A outer s H E n hgd hr tk ow => by
    have nd := sc_is_name.nd
    have hu := roomU hr
    obtain ⟨_, h_ALPHABET⟩ := Z.gs_ALPHABET
    obtain ⟨_, h_LETTERS⟩ := Z.gi_LETTERS
    exact (bone (sret (xand (xisi Z.b_isinstance Z.b_str rfl (xv 0)) (xand (xchain k_lt k_le xint (xlen Z.b_len (xv 0)) (xgI h_LETTERS)) (pe_one (xall rfl Z.b_all (xo (olc 1 (own := [("letter", 1)]) rfl nd (iu (xv 0)) src_u (blkOk_by (by kernel_rfl)) (by decide) (fun _ _ _ _ _ => pg_name (i := 1) nd rfl (by first | exact Or.inl rfl | exact Or.inr rfl)) (fun _ _ _ _ _ => tsN) (fun _ _ _ _ _ => (xcmp (k_in hu) (xv 1) (xgS h_ALPHABET))))))))))))
/-! ### need_name: 0 value -/
theorem sc_need_name : FnScope ["value"] ["value"] (defScope s_need_name) := ⟨rfl, rfl, rfl, by decide +kernel, rfl, by decide +kernel, by decide +kernel⟩
noncomputable def b_need_name (n : Nat) : M Fl :=
  (ifM (notT (asB (callM m_is_name n (argC (var 0) argN)))) stuck skipM)
noncomputable def m_need_name : Fn := fnQ false 1 1 b_need_name
set_option maxHeartbeats 4000000 in
theorem pr_need_name (Z : Zt P K mg) : Pr P w K mg base 2 "need_name" "need_name" s_need_name ["value"] m_need_name :=
  prF (pr_mk sc_need_name (by decide) fun f cdv A outer s H E n hgd hr tk ow => by
    have nd := sc_need_name.nd
    have hu := roomU hr
    have D_is_name := df_row (pr_is_name (P := P) (w := w) (base := base) Z) Z.fn_is_name rfl
    exact (bone (sif (tnot (tval (xdef n D_is_name hgd hr tk (by decide) (acons (xv 0) anil)))) (bone sstuck) bnil)))
/-! ### is_integer: 0 value, 1 least, 2 most -/
theorem sc_is_integer : FnScope ["value", "least", "most"] ["value", "least", "most"] (defScope s_is_integer) := ⟨rfl, rfl, rfl, by decide +kernel, rfl, by decide +kernel, by decide +kernel⟩
noncomputable def b_is_integer (n : Nat) : M Fl :=
  (retM (andV (bnd (var 0) (fIsi "int")) (andV (notV (bnd (var 0) (fIsi "bool"))) (chainM opLe opLe (var 1) (var 0) (var 2)))))
noncomputable def m_is_integer : Fn := fnQ false 3 3 b_is_integer
set_option maxHeartbeats 4000000 in
theorem pr_is_integer (Z : Zt P K mg) : Pr P w K mg base 1 "is_integer" "is_integer" s_is_integer ["value", "least", "most"] m_is_integer :=
  prF (pr_mk sc_is_integer (by decide) fun f cdv A outer s H E n hgd hr tk ow => by
    have nd := sc_is_integer.nd
    have hu := roomU hr
    exact (bone (sret (xand (xisi Z.b_isinstance Z.b_int rfl (xv 0)) (xand (xnot (xisi Z.b_isinstance Z.b_bool rfl (xv 0))) (pe_one (xchain k_le k_le (xv 1) (xv 0) (xv 2))))))))
/-! ### is_rate: 0 value, 1 part -/
theorem sc_is_rate : FnScope ["value", "part"] ["value"] (defScope s_is_rate) := ⟨rfl, rfl, rfl, by decide +kernel, rfl, by decide +kernel, by decide +kernel⟩
noncomputable def b_is_rate (n : Nat) : M Fl :=
  (seqM (ifM (orT (notT (asB (bnd (var 0) (fIsi "tuple")))) (asB (bin (bnd (var 0) fLen) (ret (.int 2)) opNe))) (retM (ret (.bl false))) skipM)
    (retM (bnd (lstM (lcM (itemsM (var 0)) 1 [1] (ret true) (callM m_is_integer n (appA 1 (["least", "most"] : List Str).length (argC (var 1) argN) (argC (ret (.int 1)) (argC (ret (.int 9)) argN)))))) fAll)))
noncomputable def m_is_rate : Fn := fnQ false 1 2 b_is_rate
set_option maxHeartbeats 4000000 in
theorem pr_is_rate (Z : Zt P K mg) : Pr P w K mg base 2 "is_rate" "is_rate" s_is_rate ["value"] m_is_rate :=
  prF (pr_mk sc_is_rate (by decide) fun f cdv A outer s H E n hgd hr tk ow => by
    have nd := sc_is_rate.nd
    have hu := roomU hr
    have DK_is_integer_1_least_most := dfk_row (pr_is_integer (P := P) (w := w) (base := base) Z) Z.fk_is_integer_1_least_most rfl
    obtain ⟨_, _, _, cm_Office_RATE, cr_Office_RATE, cv_Office_RATE⟩ := Z.ca_Office_RATE
    exact (bcons (sif (PW.pt (wor (tnot (tval (xisi Z.b_isinstance Z.b_tuple rfl (xv 0)))) (pw_or1 (tcmp (k_ne hu) (xlen Z.b_len (xv 0)) xint)))) (bone (sret xbl)) bnil)
    (bone (sret (xall rfl Z.b_all (xo (olc 1 (own := [("part", 1)]) rfl nd (iu (xv 0)) src_u (blkOk_by (by kernel_rfl)) (by decide) (fun _ _ _ _ _ => pg_name (i := 1) nd rfl (by first | exact Or.inl rfl | exact Or.inr rfl)) (fun _ _ _ _ _ => tsN) (fun _ _ _ _ _ => (xcallK n DK_is_integer_1_least_most hgd hr takesF (by decide) (acons (xv 1) anil) (akC xint (akC (xcattr cm_Office_RATE cr_Office_RATE cv_Office_RATE) akN)))))))))))
/-! ### need_integer: 0 value, 1 least, 2 most -/
theorem sc_need_integer : FnScope ["value", "least", "most"] ["value", "least", "most"] (defScope s_need_integer) := ⟨rfl, rfl, rfl, by decide +kernel, rfl, by decide +kernel, by decide +kernel⟩
noncomputable def b_need_integer (n : Nat) : M Fl :=
  (ifM (notT (asB (callM m_is_integer n (appA 1 (["least", "most"] : List Str).length (argC (var 0) argN) (argC (var 1) (argC (var 2) argN)))))) stuck skipM)
noncomputable def m_need_integer : Fn := fnQ false 3 3 b_need_integer
set_option maxHeartbeats 4000000 in
theorem pr_need_integer (Z : Zt P K mg) : Pr P w K mg base 2 "need_integer" "need_integer" s_need_integer ["value", "least", "most"] m_need_integer :=
  prF (pr_mk sc_need_integer (by decide) fun f cdv A outer s H E n hgd hr tk ow => by
    have nd := sc_need_integer.nd
    have hu := roomU hr
    have DK_is_integer_1_least_most := dfk_row (pr_is_integer (P := P) (w := w) (base := base) Z) Z.fk_is_integer_1_least_most rfl
    exact (bone (sif (tnot (tval (xcallK n DK_is_integer_1_least_most hgd hr tk (by decide) (acons (xv 0) anil) (akC (xv 1) (akC (xv 2) akN))))) (bone sstuck) bnil)))
/-! ### Office.__init__: 0 self, 1 name, 2 source, 3 goal, 4 rate, 5 fee, 6 least, 7 value -/
theorem sc_Office_init : FnScope ["self", "name", "source", "goal", "rate", "fee", "least", "value"] ["self", "name", "source", "goal", "rate", "fee", "least"] (defScope s_Office_init) := ⟨rfl, rfl, rfl, by decide +kernel, rfl, by decide +kernel, by decide +kernel⟩
noncomputable def b_Office_init (n : Nat) : M Fl :=
  (seqM (loopM (itemsM (tupM (argC (var 1) (argC (var 2) (argC (var 3) argN))))) 7 (dropM (callM m_need_name n (argC (var 7) argN))))
    (seqM (ifM (notT (asB (callM m_is_rate n (argC (var 4) argN)))) stuck skipM)
    (seqM (dropM (callM m_need_integer n (appA 1 (["least", "most"] : List Str).length (argC (var 5) argN) (argC (ret (.int 0)) (argC (bnd (var 0) (conM ["Office", "CappedOffice"] "FEE" 20)) argN)))))
    (seqM (dropM (callM m_need_integer n (appA 1 (["least", "most"] : List Str).length (argC (var 6) argN) (argC (ret (.int 0)) (argC (bnd (var 0) (conM ["Office", "CappedOffice"] "LEAST" 1000)) argN)))))
    (seqM (fputM ["Office", "CappedOffice"] "name" (var 0) (var 1))
    (seqM (fputM ["Office", "CappedOffice"] "own_ends" (var 0) (tupM (argC (var 2) (argC (var 3) argN))))
    (seqM (fputM ["Office", "CappedOffice"] "own_rate" (var 0) (var 4))
    (seqM (fputM ["Office", "CappedOffice"] "own_fee" (var 0) (var 5))
    (fputM ["Office", "CappedOffice"] "own_least" (var 0) (var 6))))))))))
noncomputable def m_Office_init : Fn := fnQ false 7 8 b_Office_init
set_option maxHeartbeats 4000000 in
theorem pr_Office_init (Z : Zt P K mg) : Pr P w K mg base 3 "__init__" "Office.__init__" s_Office_init ["self", "name", "source", "goal", "rate", "fee", "least"] m_Office_init :=
  prF (pr_mk sc_Office_init (by decide) fun f cdv A outer s H E n hgd hr tk ow => by
    have nd := sc_Office_init.nd
    have hu := roomU hr
    have D_need_name := df_row (pr_need_name (P := P) (w := w) (base := base) Z) Z.fn_need_name rfl
    have D_is_rate := df_row (pr_is_rate (P := P) (w := w) (base := base) Z) Z.fn_is_rate rfl
    have DK_need_integer_1_least_most := dfk_row (pr_need_integer (P := P) (w := w) (base := base) Z) Z.fk_need_integer_1_least_most rfl
    exact (bcons (sfor 7 rfl nd ow (iu (xtup (acons (xv 1) (acons (xv 2) (acons (xv 3) anil))))) src_u (bone (sexpr (xdef n D_need_name hgd hr tk (by decide) (acons (xv 7) anil)))))
    (bcons (sif (tnot (tval (xdef n D_is_rate hgd hr tk (by decide) (acons (xv 4) anil)))) (bone sstuck) bnil)
    (bcons (sexpr (xcallK n DK_need_integer_1_least_most hgd hr tk (by decide) (acons (xv 5) anil) (akC xint (akC (xcon Z.co_FEE (xv 0)) akN))))
    (bcons (sexpr (xcallK n DK_need_integer_1_least_most hgd hr tk (by decide) (acons (xv 6) anil) (akC xint (akC (xcon Z.co_LEAST (xv 0)) akN))))
    (bcons (sfput Z.fo_name (xv 0) (xv 1))
    (bcons (sfput Z.fo_own_ends (xv 0) (xtup (acons (xv 2) (acons (xv 3) anil))))
    (bcons (sfput Z.fo_own_rate (xv 0) (xv 4))
    (bcons (sfput Z.fo_own_fee (xv 0) (xv 5))
    (bone (sfput Z.fo_own_least (xv 0) (xv 6))))))))))))
noncomputable def ts_CappedOffice_init_5_fee_least : List (Str × Fn) := [("CappedOffice", m_Office_init)]
theorem Tts_CappedOffice_init_5_fee_least (Z : Zt P K mg) {D : Addr} (hD : ClsAt K "CappedOffice" D) : SupTab P w K mg base 3 D "__init__" 7 5 ["fee", "least"] ts_CappedOffice_init_5_fee_least := (supC hD (pr_Office_init Z) Z.su_CappedOffice_CappedOffice_init_5_fee_least (by decide) rfl sup0)
/-! ### CappedOffice.__init__: 0 self, 1 name, 2 source, 3 goal, 4 rate, 5 most, 6 fee, 7 least, 8 __class__ -/
theorem sc_CappedOffice_init : NScope ["self", "name", "source", "goal", "rate", "most", "fee", "least", "__class__"] ["self", "name", "source", "goal", "rate", "most", "fee", "least"] ["__class__"] (defScope s_CappedOffice_init) := nscope_by (by decide +kernel)
noncomputable def b_CappedOffice_init (n : Nat) : M Fl :=
  (seqM (dropM (supM ts_CappedOffice_init_5_fee_least n (appA 4 (["fee", "least"] : List Str).length (argC (var 1) (argC (var 2) (argC (var 3) (argC (var 4) argN)))) (argC (var 6) (argC (var 7) argN)))))
    (seqM (dropM (callM m_need_integer n (appA 1 (["least", "most"] : List Str).length (argC (var 5) argN) (argC (var 7) (argC (bnd (var 0) (conM ["CappedOffice"] "MOST" 1000000)) argN)))))
    (fputM ["CappedOffice"] "own_most" (var 0) (var 5))))
noncomputable def m_CappedOffice_init : Fn := fnQ false 8 9 b_CappedOffice_init
set_option maxHeartbeats 4000000 in
theorem pr_CappedOffice_init (Z : Zt P K mg) : PrS P w K mg base 4 "__init__" "CappedOffice.__init__" "CappedOffice" s_CappedOffice_init ["self", "name", "source", "goal", "rate", "most", "fee", "least"] m_CappedOffice_init :=
  prsF (prs_mk sc_CappedOffice_init (by decide) fun f cc cda D S1 hD A outer s H E n hgd hr tk ow => by
    have nd := sc_CappedOffice_init.nd
    have hu := roomU hr
    have SX := supX_of (P := P) (w := w) (base := base) (N := ["self", "name", "source", "goal", "rate", "most", "fee", "least", "__class__"]) (x := "__init__") (qual := "CappedOffice.__init__") (st := s_CappedOffice_init) (A := A) (outer := outer) (s := s) (H := H) (E := E) S1 rfl rfl rfl rfl
    have Hts_CappedOffice_init_5_fee_least := Tts_CappedOffice_init_5_fee_least (P := P) (w := w) (base := base) Z hD
    have DK_need_integer_1_least_most := dfk_row (pr_need_integer (P := P) (w := w) (base := base) Z) Z.fk_need_integer_1_least_most rfl
    exact (acons1 (aexpr (asup n Hts_CappedOffice_init_5_fee_least SX hgd hr tk (by decide) (acons (xv 1) (acons (xv 2) (acons (xv 3) (acons (xv 4) anil)))) (akC (xv 6) (akC (xv 7) akN))))
    (bcons (sexpr (xcallK n DK_need_integer_1_least_most hgd hr tk (by decide) (acons (xv 5) anil) (akC (xv 7) (akC (xcon Z.co_MOST (xv 0)) akN))))
    (bone (sfput Z.fo_own_most (xv 0) (xv 5))))))
/-! ### _law_made: 0 _law_row_here -/
theorem sc_law_made : FnScope ["_law_row_here"] ["_law_row_here"] (defScope s_law_made) := ⟨rfl, rfl, rfl, by decide +kernel, rfl, by decide +kernel, by decide +kernel⟩
noncomputable def b_law_made (n : Nat) : M Fl :=
  (seqM (ifM (asB (isN false (bin (var 0) (ret (.int 6)) opIx))) (retM (makeM "Office" m_Office_init n (appA 4 (["fee", "least"] : List Str).length (argC (bin (var 0) (ret (.int 0)) opIx) (argC (bin (var 0) (ret (.int 1)) opIx) (argC (bin (var 0) (ret (.int 2)) opIx) (argC (bin (var 0) (ret (.int 3)) opIx) argN)))) (argC (bin (var 0) (ret (.int 4)) opIx) (argC (bin (var 0) (ret (.int 5)) opIx) argN))))) skipM)
    (retM (makeM "CappedOffice" m_CappedOffice_init n (appA 4 (["most", "fee", "least"] : List Str).length (argC (bin (var 0) (ret (.int 0)) opIx) (argC (bin (var 0) (ret (.int 1)) opIx) (argC (bin (var 0) (ret (.int 2)) opIx) (argC (bin (var 0) (ret (.int 3)) opIx) argN)))) (argC (bin (var 0) (ret (.int 6)) opIx) (argC (bin (var 0) (ret (.int 4)) opIx) (argC (bin (var 0) (ret (.int 5)) opIx) argN)))))))
noncomputable def m_law_made : Fn := fnQ false 1 1 b_law_made
set_option maxHeartbeats 4000000 in
theorem pr_law_made (Z : Zt P K mg) : Pr P w K mg base 6 "_law_made" "_law_made" s_law_made ["_law_row_here"] m_law_made :=
  prF (pr_mk sc_law_made (by decide) fun f cdv A outer s H E n hgd hr tk ow => by
    have nd := sc_law_made.nd
    have hu := roomU hr
    have M_Office_4_fee_least := mk_row (pr_Office_init (P := P) (w := w) (base := base) Z) Z.mk_Office_4_fee_least rfl
    have M_CappedOffice_4_most_fee_least := mkS_row (pr_CappedOffice_init (P := P) (w := w) (base := base) Z) Z.mk_CappedOffice_4_most_fee_least rfl
    exact (bcons (sif (tisN (xix (xv 0) xint)) (bone (sret (xmake n M_Office_4_fee_least hgd hr tk (by decide) (acons (xix (xv 0) xint) (acons (xix (xv 0) xint) (acons (xix (xv 0) xint) (acons (xix (xv 0) xint) anil)))) (akC (xix (xv 0) xint) (akC (xix (xv 0) xint) akN))))) bnil)
    (bone (sret (xmake n M_CappedOffice_4_most_fee_least hgd hr tk (by decide) (acons (xix (xv 0) xint) (acons (xix (xv 0) xint) (acons (xix (xv 0) xint) (acons (xix (xv 0) xint) anil)))) (akC (xix (xv 0) xint) (akC (xix (xv 0) xint) (akC (xix (xv 0) xint) akN))))))))
/-! ### Office.source: 0 self -/
theorem sc_Office_source : FnScope ["self"] ["self"] (defScope s_Office_source) := ⟨rfl, rfl, rfl, by decide +kernel, rfl, by decide +kernel, by decide +kernel⟩
noncomputable def b_Office_source (n : Nat) : M Fl :=
  (retM (bin (bnd (var 0) (fldM ["Office", "CappedOffice"] "own_ends")) (ret (.int 0)) opIx))
noncomputable def m_Office_source : Fn := fnQ false 1 1 b_Office_source
set_option maxHeartbeats 4000000 in
theorem pr_Office_source (Z : Zt P K mg) : Pr P w K mg base 1 "source" "Office.source" s_Office_source ["self"] m_Office_source :=
  prF (pr_mk sc_Office_source (by decide) fun f cdv A outer s H E n hgd hr tk ow => by
    have nd := sc_Office_source.nd
    have hu := roomU hr
    exact (bone (sret (xix (xfld Z.fo_own_ends (xv 0)) xint))))
noncomputable def tp_source : List (Str × Fn) := [("Office", m_Office_source), ("CappedOffice", m_Office_source)]
theorem Ttp_source (Z : Zt P K mg) : PropTab P w K mg base 1 "source" tp_source := (prpC (pr_Office_source Z) Z.pp_Office_source (by decide) rfl (prpC (pr_Office_source Z) Z.pp_CappedOffice_source (by decide) rfl prp0))
/-! ### Office.goal: 0 self -/
theorem sc_Office_goal : FnScope ["self"] ["self"] (defScope s_Office_goal) := ⟨rfl, rfl, rfl, by decide +kernel, rfl, by decide +kernel, by decide +kernel⟩
noncomputable def b_Office_goal (n : Nat) : M Fl :=
  (retM (bin (bnd (var 0) (fldM ["Office", "CappedOffice"] "own_ends")) (ret (.int 1)) opIx))
noncomputable def m_Office_goal : Fn := fnQ false 1 1 b_Office_goal
set_option maxHeartbeats 4000000 in
theorem pr_Office_goal (Z : Zt P K mg) : Pr P w K mg base 1 "goal" "Office.goal" s_Office_goal ["self"] m_Office_goal :=
  prF (pr_mk sc_Office_goal (by decide) fun f cdv A outer s H E n hgd hr tk ow => by
    have nd := sc_Office_goal.nd
    have hu := roomU hr
    exact (bone (sret (xix (xfld Z.fo_own_ends (xv 0)) xint))))
noncomputable def tp_goal : List (Str × Fn) := [("Office", m_Office_goal), ("CappedOffice", m_Office_goal)]
theorem Ttp_goal (Z : Zt P K mg) : PropTab P w K mg base 1 "goal" tp_goal := (prpC (pr_Office_goal Z) Z.pp_Office_goal (by decide) rfl (prpC (pr_Office_goal Z) Z.pp_CappedOffice_goal (by decide) rfl prp0))
/-! ### Route.__init__: 0 self, 1 start, 2 offices, 3 office, 4 here, 5 index -/
theorem sc_Route_init : FnScope ["self", "start", "offices", "office", "here", "index"] ((["self", "start"] : List Str) ++ (["offices"] : List Str)) (defScope s_Route_init) := ⟨rfl, rfl, rfl, by decide +kernel, rfl, by decide +kernel, by decide +kernel⟩
noncomputable def b_Route_init (n : Nat) : M Fl :=
  (seqM (dropM (callM m_need_name n (argC (var 1) argN)))
    (seqM (loopM (itemsM (var 2)) 3 (ifM (notT (asB (bnd (var 3) (isoM [("Office", true), ("CappedOffice", true), ("Route", false)])))) stuck skipM))
    (seqM (asgM 4 (var 1))
    (seqM (loopU (enumM (var 2)) [5, 3] (seqM (ifM (asB (bin (bnd (var 3) (propM tp_source n)) (var 4) opNe)) stuck skipM)
    (asgM 4 (bnd (var 3) (propM tp_goal n)))))
    (seqM (ifM (asB (bin (bnd (var 2) fLen) (bnd (var 0) (conM ["Route"] "LENGTH" 1000)) opGt)) stuck skipM)
    (seqM (fputM ["Route"] "own_start" (var 0) (var 1))
    (seqM (fputM ["Route"] "own_end" (var 0) (var 4))
    (fputM ["Route"] "own_offices" (var 0) (var 2)))))))))
noncomputable def m_Route_init : Fn := fnQ false 3 6 b_Route_init
set_option maxHeartbeats 4000000 in
theorem pr_Route_init (Z : Zt P K mg) : PrV P w K mg base 3 "__init__" "Route.__init__" s_Route_init ["self", "start"] "offices" m_Route_init :=
  prvF (prV_mk (k := 2) (N := ["self", "start", "offices", "office", "here", "index"]) (ps := ["self", "start"]) (pv := "offices") (st := s_Route_init) (body := b_Route_init) sc_Route_init (by decide) fun f cdv A outer s H E n hgd hr tk ow => by
    have nd := sc_Route_init.nd
    have hu := roomU hr
    have D_need_name := df_row (pr_need_name (P := P) (w := w) (base := base) Z) Z.fn_need_name rfl
    obtain ⟨_, im_Office, it_Office⟩ := Z.is_Office
    have Htp_source := Ttp_source (P := P) (w := w) (base := base) Z
    have Htp_goal := Ttp_goal (P := P) (w := w) (base := base) Z
    exact (bcons (sexpr (xdef n D_need_name hgd hr tk (by decide) (acons (xv 1) anil)))
    (bcons (sfor 3 rfl nd ow (iu (xv 2)) src_u (bone (sif (tnot (tval (xiso it_Office im_Office Z.b_isinstance (xv 3)))) (bone sstuck) bnil)))
    (bcons (sset 4 nd (xv 1))
    (bcons (sforU [5, 3] rfl ow (ienum Z.b_enumerate (xv 2)) src_enum (pgs_cons (gn 5 nd) (pgs_cons (gn 3 nd) pgs_nil)) (bcons (sif (tcmp (k_ne hu) (xprop n Htp_source hgd hr (by decide) (xv 3)) (xv 4)) (bone sstuck) bnil)
    (bone (sset 4 nd (xprop n Htp_goal hgd hr (by decide) (xv 3))))))
    (bcons (sif (tcmp k_gt (xlen Z.b_len (xv 2)) (xcon Z.co_LENGTH (xv 0))) (bone sstuck) bnil)
    (bcons (sfput Z.fo_own_start (xv 0) (xv 1))
    (bcons (sfput Z.fo_own_end (xv 0) (xv 4))
    (bone (sfput Z.fo_own_offices (xv 0) (xv 2)))))))))))
/-! ### Route.__add__: 0 self, 1 other, 2 start, 3 offices -/
theorem sc_Route_add : FnScope ["self", "other", "start", "offices"] ["self", "other"] (defScope s_Route_add) := ⟨rfl, rfl, rfl, by decide +kernel, rfl, by decide +kernel, by decide +kernel⟩
noncomputable def b_Route_add (n : Nat) : M Fl :=
  (seqM (asgM 2 (iteT (asB (bnd (var 1) (isoM [("Office", true), ("CappedOffice", true), ("Route", false)]))) (bnd (var 1) (propM tp_source n)) (bnd (var 1) (fldM ["Route"] "own_start"))))
    (seqM (asgM 3 (iteT (asB (bnd (var 1) (isoM [("Office", true), ("CappedOffice", true), ("Route", false)]))) (tupM (argC (var 1) argN)) (bnd (var 1) (fldM ["Route"] "own_offices"))))
    (seqM (ifM (asB (bin (var 2) (bnd (var 0) (fldM ["Route"] "own_end")) opNe)) stuck skipM)
    (retM (makeM "Route" m_Route_init n (starA 1 (argC (bnd (var 0) (fldM ["Route"] "own_start")) (argS (bnd (var 0) (fldM ["Route"] "own_offices")) (argS (var 3) argN)))))))))
noncomputable def m_Route_add : Fn := fnQ false 2 4 b_Route_add
set_option maxHeartbeats 4000000 in
theorem pr_Route_add (Z : Zt P K mg) : Pr P w K mg base 5 "__add__" "Route.__add__" s_Route_add ["self", "other"] m_Route_add :=
  prF (pr_mk sc_Route_add (by decide) fun f cdv A outer s H E n hgd hr tk ow => by
    have nd := sc_Route_add.nd
    have hu := roomU hr
    obtain ⟨_, im_Office, it_Office⟩ := Z.is_Office
    have Htp_source := Ttp_source (P := P) (w := w) (base := base) Z
    have MV_Route := mkV_row (i := 1) (pr_Route_init (P := P) (w := w) (base := base) Z) Z.mv_Route rfl rfl
    exact (bcons (sset 2 nd (xif (tval (xiso it_Office im_Office Z.b_isinstance (xv 1))) (xprop n Htp_source hgd hr (by decide) (xv 1)) (xfld Z.fo_own_start (xv 1))))
    (bcons (sset 3 nd (xif (tval (xiso it_Office im_Office Z.b_isinstance (xv 1))) (xtup (acons (xv 1) anil)) (xfld Z.fo_own_offices (xv 1))))
    (bcons (sif (tcmp (k_ne hu) (xv 2) (xfld Z.fo_own_end (xv 0))) (bone sstuck) bnil)
    (bone (sret (xmakeV n MV_Route hgd hr tk (by decide) (acons (xfld Z.fo_own_start (xv 0)) (acS (xfld Z.fo_own_offices (xv 0)) (acS (xv 3) anil))))))))))
noncomputable def tb_add : List (Str × Fn) := [("Route", m_Route_add)]
theorem Ttb_add (Z : Zt P K mg) : BopTab P w K mg base 5 "add" tb_add ["Office", "CappedOffice"] [] := bopT (boC (pr_Route_add Z) Z.bo_Route_add (by decide) rfl rfl bo0) (othC Z.ot_Route_Office_add (othC Z.ot_Route_CappedOffice_add oth0)) Z.bb_Route_add
/-! ### _law_route: 0 _law_start, 1 _law_rows, 2 _law_some, 3 _law_found, 4 _law_office, 5 _law_row_here -/
theorem sc_law_route : FnScope ["_law_start", "_law_rows", "_law_some", "_law_found", "_law_office", "_law_row_here"] ["_law_start", "_law_rows"] (defScope s_law_route) := ⟨rfl, rfl, rfl, by decide +kernel, rfl, by decide +kernel, by decide +kernel⟩
noncomputable def b_law_route (n : Nat) : M Fl :=
  (seqM (asgM 2 (lstM (lcM (itemsM (var 1)) 5 [5] (ret true) (callM m_law_made n (argC (var 5) argN)))))
    (seqM (ifM (asB (bin (bnd (var 2) fLen) (ret (.int 2)) opLt)) (retM (iteT (asB (bin (var 2) (lstM (fits argN)) opEqL)) (makeM "Route" m_Route_init n (starA 1 (argC (var 0) argN))) (makeM "Route" m_Route_init n (starA 1 (argC (var 0) (argC (bin (var 2) (ret (.int 0)) opIx) argN)))))) skipM)
    (seqM (asgM 3 (makeM "Route" m_Route_init n (starA 1 (argC (var 0) (argC (bin (var 2) (ret (.int 0)) opIx) (argC (bin (var 2) (ret (.int 1)) opIx) argN))))))
    (seqM (loopM (itemsM (slM (var 2) (parS (ret (.int 2))) parN)) 4 (asgM 3 (bin (var 3) (var 4) (bopO tb_add ["Office", "CappedOffice"] [] n opAdd))))
    (retM (var 3))))))
noncomputable def m_law_route : Fn := fnQ false 2 6 b_law_route
set_option maxHeartbeats 4000000 in
theorem pr_law_route (Z : Zt P K mg) : Pr P w K mg base 7 "_law_route" "_law_route" s_law_route ["_law_start", "_law_rows"] m_law_route :=
  prF (pr_mk sc_law_route (by decide) fun f cdv A outer s H E n hgd hr tk ow => by
    have nd := sc_law_route.nd
    have hu := roomU hr
    have D_law_made := df_row (pr_law_made (P := P) (w := w) (base := base) Z) Z.fn_law_made rfl
    have MV_Route := mkV_row (i := 1) (pr_Route_init (P := P) (w := w) (base := base) Z) Z.mv_Route rfl rfl
    have Htb_add := Ttb_add (P := P) (w := w) (base := base) Z
    exact (bcons (slcV 2 5 (own := [("_law_row_here", 5)]) rfl nd (iu (xv 1)) src_u (blkOk_by (by kernel_rfl)) (by decide) (fun _ _ _ _ _ => pg_name (i := 5) nd rfl (by first | exact Or.inl rfl | exact Or.inr rfl)) (fun _ _ _ _ _ => tsN) (fun _ _ _ _ _ => (xdef n D_law_made hgd hr takesF (by decide) (acons (xv 5) anil))))
    (bcons (sif (tcmp k_lt (xlen Z.b_len (xv 2)) xint) (bone (sret (xif (tcmp (k_eqL hu) (xv 2) (xo (olst anil))) (xmakeV n MV_Route hgd hr tk (by decide) (acons (xv 0) anil)) (xmakeV n MV_Route hgd hr tk (by decide) (acons (xv 0) (acons (xix (xv 2) xint) anil)))))) bnil)
    (bcons (sset 3 nd (xmakeV n MV_Route hgd hr tk (by decide) (acons (xv 0) (acons (xix (xv 2) xint) (acons (xix (xv 2) xint) anil)))))
    (bcons (sfor 4 rfl nd ow (iu (xsl (xv 2) (qS xint) qN)) src_u (bone (sset 3 nd (xaddO n Htb_add hgd hr tk (by decide) (xv 3) (xv 4)))))
    (bone (sret (xv 3))))))))
/-! ### _law_amount: 0 _law_pen_here, 1 _law_row_here, 2 _law_near, 3 _law_some -/
theorem sc_law_amount : FnScope ["_law_pen_here", "_law_row_here", "_law_near", "_law_some"] ["_law_pen_here", "_law_row_here"] (defScope s_law_amount) := ⟨rfl, rfl, rfl, by decide +kernel, rfl, by decide +kernel, by decide +kernel⟩
noncomputable def b_law_amount (n : Nat) : M Fl :=
  (seqM (asgM 2 (iteT (orT (asB (isN false (bin (var 1) (ret (.int 6)) opIx))) (asB (bin (callM m_law_draw n (argC (var 0) (argC (ret (.int 2)) argN))) (ret (.int 0)) opEq))) (bin (var 1) (ret (.int 5)) opIx) (bin (var 1) (ret (.int 6)) opIx)))
    (seqM (asgM 3 (lstM (fits (argC (ret (.int 0)) (argC (ret (.int 1)) (argC (var 2) (argC (var 2) (argC (bin (var 2) (ret (.int 1)) opAdd) (argC (bin (ret (.int 0)) (bin (var 2) (ret (.int 1)) opSub) opMax) (argC (bin (var 2) (callM m_law_draw n (argC (var 0) (argC (ret (.int 40)) argN))) opAdd) (argC (callM m_law_draw n (argC (var 0) (argC (ret (.int 100)) argN))) argN)))))))))))
    (seqM (asgM 3 (bin (var 3) (lstM (fits (argC (callM m_law_digits n (argC (var 0) (argC (ret (.int 6)) argN))) (argC (callM m_law_digits n (argC (var 0) (argC (ret (.int 30)) argN))) (argC (bin (ret (.int 10)) (ret (.int 30)) opPow) argN))))) opAdd))
    (retM (callM m_law_pick n (argC (var 0) (argC (var 3) argN)))))))
noncomputable def m_law_amount : Fn := fnQ false 2 4 b_law_amount
set_option maxHeartbeats 4000000 in
theorem pr_law_amount (Z : Zt P K mg) : Pr P w K mg base 3 "_law_amount" "_law_amount" s_law_amount ["_law_pen_here", "_law_row_here"] m_law_amount :=
  prF (pr_mk sc_law_amount (by decide) fun f cdv A outer s H E n hgd hr tk ow => by
    have nd := sc_law_amount.nd
    have hu := roomU hr
    have D_law_draw := df_row (pr_law_draw (P := P) (w := w) (base := base) Z) Z.fn_law_draw rfl
    have D_law_digits := df_row (pr_law_digits (P := P) (w := w) (base := base) Z) Z.fn_law_digits rfl
    have D_law_pick := df_row (pr_law_pick (P := P) (w := w) (base := base) Z) Z.fn_law_pick rfl
    exact (bcons (sset 2 nd (xif (PW.pt (wor (tisN (xix (xv 1) xint)) (pw_or1 (tcmp (k_eq hu) (xdef n D_law_draw hgd hr tk (by decide) (acons (xv 0) (acons xint anil))) xint)))) (xix (xv 1) xint) (xix (xv 1) xint)))
    (bcons (sset 3 nd (xo (olst (acons xint (acons xint (acons (xv 2) (acons (xv 2) (acons (xadd (xv 2) xint) (acons (xmax2 rfl Z.b_max xint (xsub (xv 2) xint)) (acons (xadd (xv 2) (xdef n D_law_draw hgd hr tk (by decide) (acons (xv 0) (acons xint anil)))) (acons (xdef n D_law_draw hgd hr tk (by decide) (acons (xv 0) (acons xint anil))) anil)))))))))))
    (bcons (sset 3 nd (xadd (xv 3) (xo (olst (acons (xdef n D_law_digits hgd hr tk (by decide) (acons (xv 0) (acons xint anil))) (acons (xdef n D_law_digits hgd hr tk (by decide) (acons (xv 0) (acons xint anil))) (acons (xpow xint xint) anil)))))))
    (bone (sret (xdef n D_law_pick hgd hr tk (by decide) (acons (xv 0) (acons (xv 3) anil)))))))))
/-! ### _law_route_amount: 0 _law_pen_here, 1 _law_rows, 2 _law_near -/
theorem sc_law_route_amount : FnScope ["_law_pen_here", "_law_rows", "_law_near"] ["_law_pen_here", "_law_rows"] (defScope s_law_route_amount) := ⟨rfl, rfl, rfl, by decide +kernel, rfl, by decide +kernel, by decide +kernel⟩
noncomputable def b_law_route_amount (n : Nat) : M Fl :=
  (seqM (asgM 2 (iteT (asB (bin (var 1) (lstM (fits argN)) opNe)) (callM m_law_amount n (argC (var 0) (argC (bin (var 1) (ret (.int 0)) opIx) argN))) (ret (.int 0))))
    (retM (bin (bin (ret (.int 10)) (ret (.int 30)) opPow) (callM m_law_pick n (argC (var 0) (argC (lstM (fits (argC (var 2) (argC (var 2) (argC (callM m_law_draw n (argC (var 0) (argC (ret (.int 200)) argN))) (argC (callM m_law_draw n (argC (var 0) (argC (ret (.int 20000)) argN))) (argC (callM m_law_digits n (argC (var 0) (argC (ret (.int 30)) argN))) argN))))))) argN))) opMin)))
noncomputable def m_law_route_amount : Fn := fnQ false 2 3 b_law_route_amount
set_option maxHeartbeats 4000000 in
theorem pr_law_route_amount (Z : Zt P K mg) : Pr P w K mg base 4 "_law_route_amount" "_law_route_amount" s_law_route_amount ["_law_pen_here", "_law_rows"] m_law_route_amount :=
  prF (pr_mk sc_law_route_amount (by decide) fun f cdv A outer s H E n hgd hr tk ow => by
    have nd := sc_law_route_amount.nd
    have hu := roomU hr
    have D_law_amount := df_row (pr_law_amount (P := P) (w := w) (base := base) Z) Z.fn_law_amount rfl
    have D_law_pick := df_row (pr_law_pick (P := P) (w := w) (base := base) Z) Z.fn_law_pick rfl
    have D_law_digits := df_row (pr_law_digits (P := P) (w := w) (base := base) Z) Z.fn_law_digits rfl
    have D_law_draw := df_row (pr_law_draw (P := P) (w := w) (base := base) Z) Z.fn_law_draw rfl
    exact (bcons (sset 2 nd (xif (tcmp (k_ne hu) (xv 1) (xo (olst anil))) (xdef n D_law_amount hgd hr tk (by decide) (acons (xv 0) (acons (xix (xv 1) xint) anil))) xint))
    (bone (sret (xmin2 rfl Z.b_min (xpow xint xint) (xdef n D_law_pick hgd hr tk (by decide) (acons (xv 0) (acons (xo (olst (acons (xv 2) (acons (xv 2) (acons (xdef n D_law_draw hgd hr tk (by decide) (acons (xv 0) (acons xint anil))) (acons (xdef n D_law_draw hgd hr tk (by decide) (acons (xv 0) (acons xint anil))) (acons (xdef n D_law_digits hgd hr tk (by decide) (acons (xv 0) (acons xint anil))) anil))))))) anil))))))))
/-! ### _law_is_plain: 0 _law_rows, 1 _law_amount_here, 2 _law_here, 3 _law_row_here -/
theorem sc_law_is_plain : FnScope ["_law_rows", "_law_amount_here", "_law_here", "_law_row_here"] ["_law_rows", "_law_amount_here"] (defScope s_law_is_plain) := ⟨rfl, rfl, rfl, by decide +kernel, rfl, by decide +kernel, by decide +kernel⟩
noncomputable def b_law_is_plain (n : Nat) : M Fl :=
  (seqM (asgM 2 (var 1))
    (seqM (loopM (itemsM (var 0)) 3 (seqM (ifM (orT (asB (bin (var 2) (bin (var 3) (ret (.int 5)) opIx) opLt)) (asB (bin (bin (bin (var 2) (bin (bin (var 3) (ret (.int 3)) opIx) (ret (.int 0)) opIx) opMul) (bin (bin (var 3) (ret (.int 3)) opIx) (ret (.int 1)) opIx) opDiv) (bin (var 3) (ret (.int 4)) opIx) opLt))) (retM (ret (.bl false))) skipM)
    (asgM 2 (bin (bin (bin (var 2) (bin (bin (var 3) (ret (.int 3)) opIx) (ret (.int 0)) opIx) opMul) (bin (bin (var 3) (ret (.int 3)) opIx) (ret (.int 1)) opIx) opDiv) (bin (var 3) (ret (.int 4)) opIx) opSub))))
    (retM (ret (.bl true)))))
noncomputable def m_law_is_plain : Fn := fnQ false 2 4 b_law_is_plain
set_option maxHeartbeats 4000000 in
theorem pr_law_is_plain (Z : Zt P K mg) : Pr P w K mg base 1 "_law_is_plain" "_law_is_plain" s_law_is_plain ["_law_rows", "_law_amount_here"] m_law_is_plain :=
  prF (pr_mk sc_law_is_plain (by decide) fun f cdv A outer s H E n hgd hr tk ow => by
    have nd := sc_law_is_plain.nd
    have hu := roomU hr
    exact (bcons (sset 2 nd (xv 1))
    (bcons (sfor 3 rfl nd ow (iu (xv 0)) src_u (bcons (sif (PW.pt (wor (tcmp k_lt (xv 2) (xix (xv 3) xint)) (pw_or1 (tcmp k_lt (xfdiv (xmul (xv 2) (xix (xix (xv 3) xint) xint)) (xix (xix (xv 3) xint) xint)) (xix (xv 3) xint))))) (bone (sret xbl)) bnil)
    (bone (sset 2 nd (xsub (xfdiv (xmul (xv 2) (xix (xix (xv 3) xint) xint)) (xix (xix (xv 3) xint) xint)) (xix (xv 3) xint))))))
    (bone (sret xbl)))))
/-! ### need_amount: 0 value -/
theorem sc_need_amount : FnScope ["value"] ["value"] (defScope s_need_amount) := ⟨rfl, rfl, rfl, by decide +kernel, rfl, by decide +kernel, by decide +kernel⟩
noncomputable def b_need_amount (n : Nat) : M Fl :=
  (dropM (callM m_need_integer n (appA 1 (["least", "most"] : List Str).length (argC (var 0) argN) (argC (ret (.int 0)) (argC (ret (.int 1000000000000000000000000000000)) argN)))))
noncomputable def m_need_amount : Fn := fnQ false 1 1 b_need_amount
set_option maxHeartbeats 4000000 in
theorem pr_need_amount (Z : Zt P K mg) : Pr P w K mg base 3 "need_amount" "need_amount" s_need_amount ["value"] m_need_amount :=
  prF (pr_mk sc_need_amount (by decide) fun f cdv A outer s H E n hgd hr tk ow => by
    have nd := sc_need_amount.nd
    have hu := roomU hr
    have DK_need_integer_1_least_most := dfk_row (pr_need_integer (P := P) (w := w) (base := base) Z) Z.fk_need_integer_1_least_most rfl
    obtain ⟨_, h_COINS⟩ := Z.gi_COINS
    exact (bone (sexpr (xcallK n DK_need_integer_1_least_most hgd hr tk (by decide) (acons (xv 0) anil) (akC xint (akC (xgI h_COINS) akN))))))
/-! ### Office.result: 0 self, 1 coins, 2 p, 3 q -/
theorem sc_Office_result : FnScope ["self", "coins", "p", "q"] ["self", "coins"] (defScope s_Office_result) := ⟨rfl, rfl, rfl, by decide +kernel, rfl, by decide +kernel, by decide +kernel⟩
noncomputable def b_Office_result (n : Nat) : M Fl :=
  (seqM (ifM (asB (bin (var 1) (bnd (var 0) (fldM ["Office", "CappedOffice"] "own_least")) opLt)) (retM (ret .non)) skipM)
    (seqM (unpM [2, 3] (bnd (var 0) (fldM ["Office", "CappedOffice"] "own_rate")))
    (retM (bin (ret (.int 0)) (bin (bin (bin (var 1) (var 2) opMul) (var 3) opDiv) (bnd (var 0) (fldM ["Office", "CappedOffice"] "own_fee")) opSub) opMax))))
noncomputable def m_Office_result : Fn := fnQ false 2 4 b_Office_result
set_option maxHeartbeats 4000000 in
theorem pr_Office_result (Z : Zt P K mg) : Pr P w K mg base 1 "result" "Office.result" s_Office_result ["self", "coins"] m_Office_result :=
  prF (pr_mk sc_Office_result (by decide) fun f cdv A outer s H E n hgd hr tk ow => by
    have nd := sc_Office_result.nd
    have hu := roomU hr
    exact (bcons (sif (tcmp k_lt (xv 1) (xfld Z.fo_own_least (xv 0))) (bone (sret xnon)) bnil)
    (bcons (sunp [2, 3] rfl (xfld Z.fo_own_rate (xv 0)) (pgs_cons (gn 2 nd) (pgs_cons (gn 3 nd) pgs_nil)))
    (bone (sret (xmax2 rfl Z.b_max xint (xsub (xfdiv (xmul (xv 1) (xv 2)) (xv 3)) (xfld Z.fo_own_fee (xv 0)))))))))
noncomputable def ts_CappedOffice_result_2 : List (Str × Fn) := [("CappedOffice", m_Office_result)]
theorem Tts_CappedOffice_result_2 (Z : Zt P K mg) {D : Addr} (hD : ClsAt K "CappedOffice" D) : SupTab P w K mg base 1 D "result" 2 2 [] ts_CappedOffice_result_2 := (supC hD (pr_Office_result Z) Z.su_CappedOffice_CappedOffice_result_2 (by decide) rfl sup0)
/-! ### CappedOffice.result: 0 self, 1 coins, 2 __class__ -/
theorem sc_CappedOffice_result : NScope ["self", "coins", "__class__"] ["self", "coins"] ["__class__"] (defScope s_CappedOffice_result) := nscope_by (by decide +kernel)
noncomputable def b_CappedOffice_result (n : Nat) : M Fl :=
  (seqM (retM (supM ts_CappedOffice_result_2 n (appA 1 ([] : List Str).length (argC (bin (var 1) (bnd (var 0) (fldM ["CappedOffice"] "own_most")) opMin) argN) argN)))
    skipM)
noncomputable def m_CappedOffice_result : Fn := fnQ false 2 3 b_CappedOffice_result
set_option maxHeartbeats 4000000 in
theorem pr_CappedOffice_result (Z : Zt P K mg) : PrS P w K mg base 2 "result" "CappedOffice.result" "CappedOffice" s_CappedOffice_result ["self", "coins"] m_CappedOffice_result :=
  prsF (prs_mk sc_CappedOffice_result (by decide) fun f cc cda D S1 hD A outer s H E n hgd hr tk ow => by
    have nd := sc_CappedOffice_result.nd
    have hu := roomU hr
    have SX := supX_of (P := P) (w := w) (base := base) (N := ["self", "coins", "__class__"]) (x := "result") (qual := "CappedOffice.result") (st := s_CappedOffice_result) (A := A) (outer := outer) (s := s) (H := H) (E := E) S1 rfl rfl rfl rfl
    have Hts_CappedOffice_result_2 := Tts_CappedOffice_result_2 (P := P) (w := w) (base := base) Z hD
    exact (acons1 (aret (asup n Hts_CappedOffice_result_2 SX hgd hr tk (by decide) (acons (xmin2 rfl Z.b_min (xv 1) (xfld Z.fo_own_most (xv 0))) anil) akN))
    bnil))
noncomputable def tm_result_2_Office_CappedOffice : List (Str × Fn) := [("Office", m_Office_result), ("CappedOffice", m_CappedOffice_result)]
theorem Ttm_result_2_Office_CappedOffice (Z : Zt P K mg) : TabOk P w K mg base 2 "result" 2 2 [] tm_result_2_Office_CappedOffice := (tabC (mrow (pr_Office_result Z) Z.me_Office_result_2 (by decide) rfl) (tabC (mrowS (pr_CappedOffice_result Z) Z.me_CappedOffice_result_2 (by decide) rfl) tab0))
/-! ### Route.result: 0 self, 1 coins, 2 found, 3 office -/
theorem sc_Route_result : FnScope ["self", "coins", "found", "office"] ["self", "coins"] (defScope s_Route_result) := ⟨rfl, rfl, rfl, by decide +kernel, rfl, by decide +kernel, by decide +kernel⟩
noncomputable def b_Route_result (n : Nat) : M Fl :=
  (seqM (asgM 2 (var 1))
    (seqM (loopM (itemsM (bnd (var 0) (fldM ["Route"] "own_offices"))) 3 (ifM (asB (isN true (var 2))) (asgM 2 (methM tm_result_2_Office_CappedOffice n "result" (var 3) (appA 1 ([] : List Str).length (argC (var 2) argN) argN))) skipM))
    (retM (var 2))))
noncomputable def m_Route_result : Fn := fnQ false 2 4 b_Route_result
set_option maxHeartbeats 4000000 in
theorem pr_Route_result (Z : Zt P K mg) : Pr P w K mg base 3 "result" "Route.result" s_Route_result ["self", "coins"] m_Route_result :=
  prF (pr_mk sc_Route_result (by decide) fun f cdv A outer s H E n hgd hr tk ow => by
    have nd := sc_Route_result.nd
    have hu := roomU hr
    have Htm_result_2_Office_CappedOffice := Ttm_result_2_Office_CappedOffice (P := P) (w := w) (base := base) Z
    exact (bcons (sset 2 nd (xv 1))
    (bcons (sfor 3 rfl nd ow (iu (xfld Z.fo_own_offices (xv 0))) src_u (bone (sif (tnotN (xv 2)) (bone (sset 2 nd (xmeth n Htm_result_2_Office_CappedOffice hgd hr tk (by decide) (xv 3) (acons (xv 2) anil) akN))) bnil)))
    (bone (sret (xv 2))))))
noncomputable def tm_result_2 : List (Str × Fn) := [("Office", m_Office_result), ("CappedOffice", m_CappedOffice_result), ("Route", m_Route_result)]
theorem Ttm_result_2 (Z : Zt P K mg) : TabOk P w K mg base 3 "result" 2 2 [] tm_result_2 := (tabC (mrow (pr_Office_result Z) Z.me_Office_result_2 (by decide) rfl) (tabC (mrowS (pr_CappedOffice_result Z) Z.me_CappedOffice_result_2 (by decide) rfl) (tabC (mrow (pr_Route_result Z) Z.me_Route_result_2 (by decide) rfl) tab0)))
theorem sc_Closed_init : FnScope ["self", "name"] ["self", "name"] (defScope s_Closed_init) := ⟨rfl, rfl, rfl, by decide +kernel, rfl, by decide +kernel, by decide +kernel⟩
theorem ek_Closed (Z : Zt P K mg) : ExK P w K mg base 1 "Closed" "name" := by
  obtain ⟨C, fI, fd, h1, h2, T, h3, h4, h5, F, hb, vV⟩ := Z.ex_Closed
  exact ⟨C, fI, fd, ["self", "name"], _, _, _, _, h1, h2, T, h3, h4, fn_initB F sc_Closed_init T h5 rfl fun cdv A outer s H E => pss_cons (ps_expr (pe_binit rfl Z.b_RuntimeError rfl rfl rfl vV rfl (pa_cons (pv 0) (pa_cons pe_str pa_nil)))) (pss_one (ps_ostB (pv 0) (pv 1))), hb⟩
/-! ### Office.__call__: 0 self, 1 amount, 2 found -/
theorem sc_Office_call : FnScope ["self", "amount", "found"] ["self", "amount"] (defScope s_Office_call) := ⟨rfl, rfl, rfl, by decide +kernel, rfl, by decide +kernel, by decide +kernel⟩
noncomputable def b_Office_call (n : Nat) : M Fl :=
  (seqM (dropM (callM m_need_amount n (argC (var 1) argN)))
    (seqM (asgM 2 (methM tm_result_2 n "result" (var 0) (appA 1 ([] : List Str).length (argC (var 1) argN) argN)))
    (seqM (ifM (asB (isN false (var 2))) (raiseM "Closed" "name" (bnd (var 0) (fldM ["Office", "CappedOffice"] "name"))) skipM)
    (retM (var 2)))))
noncomputable def m_Office_call : Fn := fnQ false 2 3 b_Office_call
set_option maxHeartbeats 4000000 in
theorem pr_Office_call (Z : Zt P K mg) : Pr P w K mg base 4 "__call__" "Office.__call__" s_Office_call ["self", "amount"] m_Office_call :=
  prF (pr_mk sc_Office_call (by decide) fun f cdv A outer s H E n hgd hr tk ow => by
    have nd := sc_Office_call.nd
    have hu := roomU hr
    have D_need_amount := df_row (pr_need_amount (P := P) (w := w) (base := base) Z) Z.fn_need_amount rfl
    have Htm_result_2 := Ttm_result_2 (P := P) (w := w) (base := base) Z
    have EK_Closed := ek_Closed (P := P) (w := w) (base := base) Z
    exact (bcons (sexpr (xdef n D_need_amount hgd hr tk (by decide) (acons (xv 1) anil)))
    (bcons (sset 2 nd (xmeth n Htm_result_2 hgd hr tk (by decide) (xv 0) (acons (xv 1) anil) akN))
    (bcons (sif (tisN (xv 2)) (bone (sraise EK_Closed rfl hgd hr tk (by decide) (xfld Z.fo_name (xv 0)))) bnil)
    (bone (sret (xv 2)))))))
/-! ### Route.holdings: 0 self, 1 amount, 2 coins, 3 office -/
theorem sc_Route_holdings : GScope ["self", "amount", "coins", "office"] ["self", "amount"] (defScope s_Route_holdings) := ⟨rfl, rfl, rfl, by decide +kernel, rfl, by decide +kernel, by decide +kernel⟩
noncomputable def b_Route_holdings (n : Nat) : Gn.GM :=
  (Gn.seqG (Gn.plainG (dropM (callM m_need_amount n (argC (var 1) argN))))
    (Gn.seqG (Gn.yieldG (tupM (argC (bnd (var 0) (fldM ["Route"] "own_start")) (argC (var 1) argN))))
    (Gn.seqG (Gn.plainG (asgM 2 (var 1)))
    (Gn.seqG (Gn.loopG (itemsM (bnd (var 0) (fldM ["Route"] "own_offices"))) (Gn.tgN 3) (Gn.seqG (Gn.plainG (asgM 2 (methM tm_result_2 n "result" (var 3) (appA 1 ([] : List Str).length (argC (var 2) argN) argN))))
    (Gn.seqG (Gn.plainG (ifM (asB (isN false (var 2))) (raiseM "Closed" "name" (bnd (var 3) (fldM ["Office", "CappedOffice"] "name"))) skipM))
    (Gn.seqG (Gn.yieldG (tupM (argC (bnd (var 3) (propM tp_goal n)) (argC (var 2) argN))))
    Gn.nilG))))
    Gn.nilG))))
noncomputable def m_Route_holdings : Gn.GFun := Gn.genD 2 4 b_Route_holdings
set_option maxHeartbeats 4000000 in
theorem pr_Route_holdings (Z : Zt P K mg) : Gn.GPr P w K mg base 4 "holdings" "Route.holdings" s_Route_holdings ["self", "amount"] m_Route_holdings :=
  Gn.gpr_mk sc_Route_holdings (by decide) (by decide +kernel) fun f cdv A outer n0 pn n hgd hr nc => by
    have nd := sc_Route_holdings.nd
    have hu := roomU hr
    have D_need_amount := df_row (pr_need_amount (P := P) (w := w) (base := base) Z) Z.fn_need_amount rfl
    have Htm_result_2 := Ttm_result_2 (P := P) (w := w) (base := base) Z
    have EK_Closed := ek_Closed (P := P) (w := w) (base := base) Z
    have Htp_goal := Ttp_goal (P := P) (w := w) (base := base) Z
    exact (Gn.gt_cons (Gn.gt_plain (fun i => (sexpr (xdef n D_need_amount hgd hr Gn.takes_gxi (by decide) (acons (xv 1) anil)))))
    (Gn.gt_cons (Gn.gt_yield nc (fun i => (xtup (acons (xfld Z.fo_own_start (xv 0)) (acons (xv 1) anil)))))
    (Gn.gt_cons (Gn.gt_plain (fun i => (sset 2 nd (xv 1))))
    (Gn.gt_cons (Gn.gt_for (fun i => (iu (xfld Z.fo_own_offices (xv 0)))) (fun i => src_u) (fun i => (gn 3 nd)) (Gn.tgok_n 3) (Gn.gt_cons (Gn.gt_plain (fun i => (sset 2 nd (xmeth n Htm_result_2 hgd hr Gn.takes_gxi (by decide) (xv 3) (acons (xv 2) anil) akN))))
    (Gn.gt_cons (Gn.gt_plain (fun i => (sif (tisN (xv 2)) (bone (sraise EK_Closed rfl hgd hr Gn.takes_gxi (by decide) (xfld Z.fo_name (xv 3)))) bnil)))
    (Gn.gt_cons (Gn.gt_yield nc (fun i => (xtup (acons (xprop n Htp_goal hgd hr (by decide) (xv 3)) (acons (xv 2) anil)))))
    Gn.gt_nil))))
    Gn.gt_nil))))
noncomputable def tg_holdings_2 : List (Str × Gn.GFun) := [("Route", m_Route_holdings)]
theorem Ttg_holdings_2 (Z : Zt P K mg) : Gn.GTab P w K mg base 4 "holdings" 2 2 [] tg_holdings_2 := (Gn.gtabC (Gn.gmrow (pr_Route_holdings Z) Z.me_Route_holdings_2 (by decide) rfl) Gn.gtab0)
/-! ### Route.__call__: 0 self, 1 amount, 2 found, 3 currency, 4 coins -/
theorem sc_Route_call : FnScope ["self", "amount", "found", "currency", "coins"] ["self", "amount"] (defScope s_Route_call) := ⟨rfl, rfl, rfl, by decide +kernel, rfl, by decide +kernel, by decide +kernel⟩
noncomputable def b_Route_call (n : Nat) : M Fl :=
  (seqM (asgM 2 (ret (.int 0)))
    (seqM (Gn.genFor ["Closed"] (Gn.gmethM tg_holdings_2 2 n "holdings" (var 0) (appA 1 ([] : List Str).length (argC (var 1) argN) argN)) (Gn.tgU [3, 4]) n (asgM 2 (var 4)))
    (retM (var 2))))
noncomputable def m_Route_call : Fn := fnQ false 2 5 b_Route_call
set_option maxHeartbeats 4000000 in
theorem pr_Route_call (Z : Zt P K mg) : Pr P w K mg base 6 "__call__" "Route.__call__" s_Route_call ["self", "amount"] m_Route_call :=
  prF (pr_mk sc_Route_call (by decide) fun f cdv A outer s H E n hgd hr tk ow => by
    have nd := sc_Route_call.nd
    have hu := roomU hr
    have Htg_holdings_2 := Ttg_holdings_2 (P := P) (w := w) (base := base) Z
    exact (bcons (sset 2 nd xint)
    (bcons (Gn.sforG (cs := ["Closed"]) n ow rfl hr tk Gn.xg_cx Z.nostop (Gn.gimeth n Htg_holdings_2 hgd hr (by decide) (xv 0) (acons (xv 1) anil) akN) (pg_tup rfl (pgs_cons (gn 3 nd) (pgs_cons (gn 4 nd) pgs_nil)) rfl rfl) (Gn.tgok_u [3, 4]) (bone (sset 2 nd (xv 4))))
    (bone (sret (xv 2))))))
noncomputable def ti_2 : List (Str × Fn) := [("Office", m_Office_call), ("CappedOffice", m_Office_call), ("Route", m_Route_call)]
theorem Tti_2 (Z : Zt P K mg) : InsTab P w K mg base 6 2 2 ti_2 := (insC (pr_Office_call Z) Z.in_Office_2 (by decide) rfl (insC (pr_Office_call Z) Z.in_CappedOffice_2 (by decide) rfl (insC (pr_Route_call Z) Z.in_Route_2 (by decide) rfl ins0)))
/-! ### law: 0 _law_script, 1 _law_pen_here, 2 _law_turn, 3 _law_start, 4 _law_rows, 5 _law_route_here, 6 _law_above, 7 _law_below, 8 _law_row_here, 9 _law_again, 10 _law_amount_here, 11 _law_step, 12 _law_many, 13 _law_higher, 14 _law_due -/
theorem sc_law : FnScope ["_law_script", "_law_pen_here", "_law_turn", "_law_start", "_law_rows", "_law_route_here", "_law_above", "_law_below", "_law_row_here", "_law_again", "_law_amount_here", "_law_step", "_law_many", "_law_higher", "_law_due"] ["_law_script"] (defScope s_law) := ⟨rfl, rfl, rfl, by decide +kernel, rfl, by decide +kernel, by decide +kernel⟩
noncomputable def b_law (n : Nat) : M Fl :=
  (seqM (asgM 1 (callM m_law_pen n (argC (var 0) argN)))
    (seqM (loopM (rngM (ret (.int 12))) 2 (seqM (unpM [3, 4] (callM m_law_chain n (argC (var 1) (argC (bin (ret (.int 1)) (callM m_law_draw n (argC (var 1) (argC (ret (.int 4)) argN))) opAdd) argN))))
    (seqM (asgM 4 (lstM (lcM (itemsM (var 4)) 8 [8] (ret true) (bin (slM (var 8) parN (parS (ret (.int 6)))) (tupM (argC (ret .non) argN)) opAdd))))
    (seqM (par3 5 6 7 (callM m_law_route n (argC (var 3) (argC (var 4) argN))) (ret (.int 1)) (ret (.int 1)))
    (seqM (loopM (itemsM (var 4)) 8 (par2 6 7 (bin (var 6) (bin (bin (var 8) (ret (.int 3)) opIx) (ret (.int 0)) opIx) opMul) (bin (var 7) (bin (bin (var 8) (ret (.int 3)) opIx) (ret (.int 1)) opIx) opMul)))
    (loopM (rngM (ret (.int 4))) 9 (seqM (asgM 10 (bin (bin (ret (.int 10)) (ret (.int 25)) opPow) (callM m_law_route_amount n (argC (var 1) (argC (var 4) argN))) opMin))
    (seqM (loopM (rngM (ret (.int 40))) 11 (ifM (notT (asB (callM m_law_is_plain n (argC (var 4) (argC (var 10) argN))))) (asgM 10 (bin (bin (ret (.int 2)) (var 10) opMul) (ret (.int 7)) opAdd)) skipM))
    (seqM (ifM (notT (asB (callM m_law_is_plain n (argC (var 4) (argC (var 10) argN))))) (retM (ret (.bl false))) skipM)
    (seqM (asgM 12 (callM m_law_pick n (argC (var 1) (argC (lstM (fits (argC (ret (.int 1)) (argC (ret (.int 2)) (argC (callM m_law_draw n (argC (var 1) (argC (ret (.int 50)) argN))) (argC (callM m_law_digits n (argC (var 1) (argC (ret (.int 9)) argN))) (argC (callM m_law_digits n (argC (var 1) (argC (ret (.int 20)) argN))) argN))))))) argN))))
    (seqM (asgM 13 (bin (var 10) (bin (var 12) (var 7) opMul) opAdd))
    (seqM (asgM 14 (bin (insM ti_2 n (var 5) (bnd (argC (var 10) argN) fun ds => if ds.length = 1 then ret ds else stuck)) (bin (var 12) (var 6) opMul) opAdd))
    (ifM (andT (asB (bin (var 13) (bin (ret (.int 10)) (ret (.int 30)) opPow) opLe)) (asB (bin (insM ti_2 n (var 5) (bnd (argC (var 13) argN) fun ds => if ds.length = 1 then ret ds else stuck)) (var 14) opNe))) (retM (ret (.bl false))) skipM)))))))))))))
    (retM (ret (.bl true)))))
noncomputable def m_law : Fn := fnQ false 1 15 b_law
set_option maxHeartbeats 4000000 in
theorem pr_law (Z : Zt P K mg) : Pr P w K mg base 8 "law" "law" s_law ["_law_script"] m_law :=
  prF (pr_mk sc_law (by decide) fun f cdv A outer s H E n hgd hr tk ow => by
    have nd := sc_law.nd
    have hu := roomU hr
    have D_law_pen := df_row (pr_law_pen (P := P) (w := w) (base := base) Z) Z.fn_law_pen rfl
    have D_law_chain := df_row (pr_law_chain (P := P) (w := w) (base := base) Z) Z.fn_law_chain rfl
    have D_law_draw := df_row (pr_law_draw (P := P) (w := w) (base := base) Z) Z.fn_law_draw rfl
    have D_law_route := df_row (pr_law_route (P := P) (w := w) (base := base) Z) Z.fn_law_route rfl
    have D_law_route_amount := df_row (pr_law_route_amount (P := P) (w := w) (base := base) Z) Z.fn_law_route_amount rfl
    have D_law_is_plain := df_row (pr_law_is_plain (P := P) (w := w) (base := base) Z) Z.fn_law_is_plain rfl
    have D_law_pick := df_row (pr_law_pick (P := P) (w := w) (base := base) Z) Z.fn_law_pick rfl
    have D_law_digits := df_row (pr_law_digits (P := P) (w := w) (base := base) Z) Z.fn_law_digits rfl
    have Hti_2 := Tti_2 (P := P) (w := w) (base := base) Z
    exact (bcons (sset 1 nd (xdef n D_law_pen hgd hr tk (by decide) (acons (xv 0) anil)))
    (bcons (sfor 2 rfl nd ow (irng Z.b_range xint) src_rng (bcons (sunp [3, 4] rfl (xdef n D_law_chain hgd hr tk (by decide) (acons (xv 1) (acons (xadd xint (xdef n D_law_draw hgd hr tk (by decide) (acons (xv 1) (acons xint anil)))) anil))) (pgs_cons (gn 3 nd) (pgs_cons (gn 4 nd) pgs_nil)))
    (bcons (slcV 4 8 (own := [("_law_row_here", 8)]) rfl nd (iu (xv 4)) src_u (blkOk_by (by kernel_rfl)) (by decide) (fun _ _ _ _ _ => pg_name (i := 8) nd rfl (by first | exact Or.inl rfl | exact Or.inr rfl)) (fun _ _ _ _ _ => tsN) (fun _ _ _ _ _ => (xadd (xsl (xv 8) qN (qS xint)) (xtup (acons xnon anil)))))
    (bcons (spar3 5 6 7 rfl nd (xdef n D_law_route hgd hr tk (by decide) (acons (xv 3) (acons (xv 4) anil))) xint xint)
    (bcons (sfor 8 rfl nd ow (iu (xv 4)) src_u (bone (spar2 6 7 rfl nd (xmul (xv 6) (xix (xix (xv 8) xint) xint)) (xmul (xv 7) (xix (xix (xv 8) xint) xint)))))
    (bone (sfor 9 rfl nd ow (irng Z.b_range xint) src_rng (bcons (sset 10 nd (xmin2 rfl Z.b_min (xpow xint xint) (xdef n D_law_route_amount hgd hr tk (by decide) (acons (xv 1) (acons (xv 4) anil)))))
    (bcons (sfor 11 rfl nd ow (irng Z.b_range xint) src_rng (bone (sif (tnot (tval (xdef n D_law_is_plain hgd hr tk (by decide) (acons (xv 4) (acons (xv 10) anil))))) (bone (sset 10 nd (xadd (xmul xint (xv 10)) xint))) bnil)))
    (bcons (sif (tnot (tval (xdef n D_law_is_plain hgd hr tk (by decide) (acons (xv 4) (acons (xv 10) anil))))) (bone (sret xbl)) bnil)
    (bcons (sset 12 nd (xdef n D_law_pick hgd hr tk (by decide) (acons (xv 1) (acons (xo (olst (acons xint (acons xint (acons (xdef n D_law_draw hgd hr tk (by decide) (acons (xv 1) (acons xint anil))) (acons (xdef n D_law_digits hgd hr tk (by decide) (acons (xv 1) (acons xint anil))) (acons (xdef n D_law_digits hgd hr tk (by decide) (acons (xv 1) (acons xint anil))) anil))))))) anil))))
    (bcons (sset 13 nd (xadd (xv 10) (xmul (xv 12) (xv 7))))
    (bcons (sset 14 nd (xadd (xins n Hti_2 hgd hr tk (by decide) (xv 5) (acons (xv 10) anil)) (xmul (xv 12) (xv 6))))
    (bone (sif (PW.pt (wand (tcmp k_le (xv 13) (xpow xint xint)) (pw_and1 (tcmp (k_ne hu) (xins n Hti_2 hgd hr tk (by decide) (xv 5) (acons (xv 13) anil)) (xv 14))))) (bone (sret xbl)) bnil)))))))))))))))
    (bone (sret xbl)))))
end
set_option maxHeartbeats 0 in
theorem all_mk {l : PySem.W.OpenLaw} {w : World} {K : PySem.W.Frag} {h : Heap} {mg : Str → Option Value} {fa : Addr} (X : K.In h) (G : h.Ns mainGlobals mg) (hfa : mg "law" = some (.ref fa))
    {f_law_pen : Addr} {oc_law_pen : Value} {od_law_pen : Option Addr} {an_law_pen : Option Addr} {sl_law_pen : Array (Option Value)} {kV_law_pen : Value} {dc_law_pen : Value} {pm_law_pen : Value} {cd_law_pen : Value} {ct_law_pen : Value} {f_law_draw : Addr} {oc_law_draw : Value} {od_law_draw : Option Addr} {an_law_draw : Option Addr} {sl_law_draw : Array (Option Value)} {kV_law_draw : Value} {dc_law_draw : Value} {pm_law_draw : Value} {cd_law_draw : Value} {ct_law_draw : Value} {f_law_pick : Addr} {oc_law_pick : Value} {od_law_pick : Option Addr} {an_law_pick : Option Addr} {sl_law_pick : Array (Option Value)} {kV_law_pick : Value} {dc_law_pick : Value} {pm_law_pick : Value} {cd_law_pick : Value} {ct_law_pick : Value} {f_law_names : Addr} {oc_law_names : Value} {od_law_names : Option Addr} {an_law_names : Option Addr} {sl_law_names : Array (Option Value)} {kV_law_names : Value} {dc_law_names : Value} {pm_law_names : Value} {cd_law_names : Value} {ct_law_names : Value} {f_law_digits : Addr} {oc_law_digits : Value} {od_law_digits : Option Addr} {an_law_digits : Option Addr} {sl_law_digits : Array (Option Value)} {kV_law_digits : Value} {dc_law_digits : Value} {pm_law_digits : Value} {cd_law_digits : Value} {ct_law_digits : Value} {f_law_row : Addr} {oc_law_row : Value} {od_law_row : Option Addr} {an_law_row : Option Addr} {sl_law_row : Array (Option Value)} {kV_law_row : Value} {dc_law_row : Value} {pm_law_row : Value} {cd_law_row : Value} {ct_law_row : Value} {f_law_chain : Addr} {oc_law_chain : Value} {od_law_chain : Option Addr} {an_law_chain : Option Addr} {sl_law_chain : Array (Option Value)} {kV_law_chain : Value} {dc_law_chain : Value} {pm_law_chain : Value} {cd_law_chain : Value} {ct_law_chain : Value} {tg_ALPHABET : Tok} {tg_LETTERS : Tok} {f_is_name : Addr} {oc_is_name : Value} {od_is_name : Option Addr} {an_is_name : Option Addr} {sl_is_name : Array (Option Value)} {kV_is_name : Value} {dc_is_name : Value} {pm_is_name : Value} {cd_is_name : Value} {ct_is_name : Value} {f_need_name : Addr} {oc_need_name : Value} {od_need_name : Option Addr} {an_need_name : Option Addr} {sl_need_name : Array (Option Value)} {kV_need_name : Value} {dc_need_name : Value} {pm_need_name : Value} {cd_need_name : Value} {ct_need_name : Value} {f_is_integer : Addr} {oc_is_integer : Value} {od_is_integer : Option Addr} {an_is_integer : Option Addr} {sl_is_integer : Array (Option Value)} {kV_is_integer : Value} {dc_is_integer : Value} {pm_is_integer : Value} {cd_is_integer : Value} {ct_is_integer : Value} {C_Office : Addr} {tv_Office_RATE : Tok} {f_is_rate : Addr} {oc_is_rate : Value} {od_is_rate : Option Addr} {an_is_rate : Option Addr} {sl_is_rate : Array (Option Value)} {kV_is_rate : Value} {dc_is_rate : Value} {pm_is_rate : Value} {cd_is_rate : Value} {ct_is_rate : Value} {f_need_integer : Addr} {oc_need_integer : Value} {od_need_integer : Option Addr} {an_need_integer : Option Addr} {sl_need_integer : Array (Option Value)} {kV_need_integer : Value} {dc_need_integer : Value} {pm_need_integer : Value} {cd_need_integer : Value} {ct_need_integer : Value} {C_CappedOffice : Addr} {tk_CappedOffice_FEE : Tok} {tk_Office_FEE : Tok} {tk_CappedOffice_LEAST : Tok} {tk_Office_LEAST : Tok} {f_Office_init : Addr} {oc_Office_init : Value} {od_Office_init : Option Addr} {an_Office_init : Option Addr} {sl_Office_init : Array (Option Value)} {kV_Office_init : Value} {dc_Office_init : Value} {pm_Office_init : Value} {cd_Office_init : Value} {ct_Office_init : Value} {tk_CappedOffice_MOST : Tok} {f_CappedOffice_init : Addr} {cc_CappedOffice_init : Addr} {cda_CappedOffice_init : Addr} {oc_CappedOffice_init : Value} {od_CappedOffice_init : Option Addr} {an_CappedOffice_init : Option Addr} {sl_CappedOffice_init : Array (Option Value)} {kV_CappedOffice_init : Value} {dc_CappedOffice_init : Value} {pm_CappedOffice_init : Value} {ct_CappedOffice_init : Value} {oce_CappedOffice_init : Value} {ode_CappedOffice_init : Option Addr} {sle_CappedOffice_init : Array (Option Value)} {ocg_CappedOffice_init : Value} {odg_CappedOffice_init : Option Addr} {vsg_CappedOffice_init : Array Value} {slg_CappedOffice_init : Array (Option Value)} {fi_CappedOffice_init : Str} {tf_CappedOffice_init : Tok} {cdd_CappedOffice : ClassData} {f_law_made : Addr} {oc_law_made : Value} {od_law_made : Option Addr} {an_law_made : Option Addr} {sl_law_made : Array (Option Value)} {kV_law_made : Value} {dc_law_made : Value} {pm_law_made : Value} {cd_law_made : Value} {ct_law_made : Value} {C_Route : Addr} {p_Office_source : Addr} {pz_Office_source : List Value} {f_Office_source : Addr} {oc_Office_source : Value} {od_Office_source : Option Addr} {an_Office_source : Option Addr} {sl_Office_source : Array (Option Value)} {kV_Office_source : Value} {dc_Office_source : Value} {pm_Office_source : Value} {cd_Office_source : Value} {ct_Office_source : Value} {p_Office_goal : Addr} {pz_Office_goal : List Value} {f_Office_goal : Addr} {oc_Office_goal : Value} {od_Office_goal : Option Addr} {an_Office_goal : Option Addr} {sl_Office_goal : Array (Option Value)} {kV_Office_goal : Value} {dc_Office_goal : Value} {pm_Office_goal : Value} {cd_Office_goal : Value} {ct_Office_goal : Value} {tk_Route_LENGTH : Tok} {f_Route_init : Addr} {oc_Route_init : Value} {od_Route_init : Option Addr} {an_Route_init : Option Addr} {sl_Route_init : Array (Option Value)} {kV_Route_init : Value} {dc_Route_init : Value} {pm_Route_init : Value} {cd_Route_init : Value} {ct_Route_init : Value} {f_Route_add : Addr} {oc_Route_add : Value} {od_Route_add : Option Addr} {an_Route_add : Option Addr} {sl_Route_add : Array (Option Value)} {kV_Route_add : Value} {dc_Route_add : Value} {pm_Route_add : Value} {cd_Route_add : Value} {ct_Route_add : Value} {cdd_Office : ClassData} {f_law_route : Addr} {oc_law_route : Value} {od_law_route : Option Addr} {an_law_route : Option Addr} {sl_law_route : Array (Option Value)} {kV_law_route : Value} {dc_law_route : Value} {pm_law_route : Value} {cd_law_route : Value} {ct_law_route : Value} {f_law_amount : Addr} {oc_law_amount : Value} {od_law_amount : Option Addr} {an_law_amount : Option Addr} {sl_law_amount : Array (Option Value)} {kV_law_amount : Value} {dc_law_amount : Value} {pm_law_amount : Value} {cd_law_amount : Value} {ct_law_amount : Value} {f_law_route_amount : Addr} {oc_law_route_amount : Value} {od_law_route_amount : Option Addr} {an_law_route_amount : Option Addr} {sl_law_route_amount : Array (Option Value)} {kV_law_route_amount : Value} {dc_law_route_amount : Value} {pm_law_route_amount : Value} {cd_law_route_amount : Value} {ct_law_route_amount : Value} {f_law_is_plain : Addr} {oc_law_is_plain : Value} {od_law_is_plain : Option Addr} {an_law_is_plain : Option Addr} {sl_law_is_plain : Array (Option Value)} {kV_law_is_plain : Value} {dc_law_is_plain : Value} {pm_law_is_plain : Value} {cd_law_is_plain : Value} {ct_law_is_plain : Value} {tg_COINS : Tok} {f_need_amount : Addr} {oc_need_amount : Value} {od_need_amount : Option Addr} {an_need_amount : Option Addr} {sl_need_amount : Array (Option Value)} {kV_need_amount : Value} {dc_need_amount : Value} {pm_need_amount : Value} {cd_need_amount : Value} {ct_need_amount : Value} {f_Office_result : Addr} {oc_Office_result : Value} {od_Office_result : Option Addr} {an_Office_result : Option Addr} {sl_Office_result : Array (Option Value)} {kV_Office_result : Value} {dc_Office_result : Value} {pm_Office_result : Value} {cd_Office_result : Value} {ct_Office_result : Value} {f_CappedOffice_result : Addr} {cc_CappedOffice_result : Addr} {cda_CappedOffice_result : Addr} {oc_CappedOffice_result : Value} {od_CappedOffice_result : Option Addr} {an_CappedOffice_result : Option Addr} {sl_CappedOffice_result : Array (Option Value)} {kV_CappedOffice_result : Value} {dc_CappedOffice_result : Value} {pm_CappedOffice_result : Value} {ct_CappedOffice_result : Value} {oce_CappedOffice_result : Value} {ode_CappedOffice_result : Option Addr} {sle_CappedOffice_result : Array (Option Value)} {ocg_CappedOffice_result : Value} {odg_CappedOffice_result : Option Addr} {vsg_CappedOffice_result : Array Value} {slg_CappedOffice_result : Array (Option Value)} {fi_CappedOffice_result : Str} {tf_CappedOffice_result : Tok} {f_Route_result : Addr} {oc_Route_result : Value} {od_Route_result : Option Addr} {an_Route_result : Option Addr} {sl_Route_result : Array (Option Value)} {kV_Route_result : Value} {dc_Route_result : Value} {pm_Route_result : Value} {cd_Route_result : Value} {ct_Route_result : Value} {f_Closed_init : Addr} {oc_Closed_init : Value} {od_Closed_init : Option Addr} {an_Closed_init : Option Addr} {sl_Closed_init : Array (Option Value)} {kV_Closed_init : Value} {dc_Closed_init : Value} {pm_Closed_init : Value} {cd_Closed_init : Value} {ct_Closed_init : Value} {C_Closed : Addr} {f_Route_holdings : Addr} {oc_Route_holdings : Value} {od_Route_holdings : Option Addr} {an_Route_holdings : Option Addr} {sl_Route_holdings : Array (Option Value)} {kV_Route_holdings : Value} {dc_Route_holdings : Value} {pm_Route_holdings : Value} {cd_Route_holdings : Value} {ct_Route_holdings : Value} {f_Route_call : Addr} {oc_Route_call : Value} {od_Route_call : Option Addr} {an_Route_call : Option Addr} {sl_Route_call : Array (Option Value)} {kV_Route_call : Value} {dc_Route_call : Value} {pm_Route_call : Value} {cd_Route_call : Value} {ct_Route_call : Value} {f_Office_call : Addr} {oc_Office_call : Value} {od_Office_call : Option Addr} {an_Office_call : Option Addr} {sl_Office_call : Array (Option Value)} {kV_Office_call : Value} {dc_Office_call : Value} {pm_Office_call : Value} {cd_Office_call : Value} {ct_Office_call : Value} {f_law : Addr} {oc_law : Value} {od_law : Option Addr} {an_law : Option Addr} {sl_law : Array (Option Value)} {kV_law : Value} {dc_law : Value} {pm_law : Value} {cd_law : Value} {ct_law : Value} {xa_Closed : Str} {xb_Closed : Str} {xd_Closed : Addr} {xe_Closed : _} {xf_Closed : _} {xg_Closed : _} {xh_Closed : _} {xj_Closed : _} {xk_Closed : _} {xl_Closed : _} {xm_Closed : _} {xo_Closed : _} {xp_Closed : _} {xr_Closed : _}
    (a_law_pen : PySem.W.nsIn K mainGlobals "_law_pen" = some (some (.ref f_law_pen)))
    (a_law_draw : PySem.W.nsIn K mainGlobals "_law_draw" = some (some (.ref f_law_draw)))
    (a_law_pick : PySem.W.nsIn K mainGlobals "_law_pick" = some (some (.ref f_law_pick)))
    (a_law_names : PySem.W.nsIn K mainGlobals "_law_names" = some (some (.ref f_law_names)))
    (a_law_digits : PySem.W.nsIn K mainGlobals "_law_digits" = some (some (.ref f_law_digits)))
    (a_law_row : PySem.W.nsIn K mainGlobals "_law_row" = some (some (.ref f_law_row)))
    (a_law_chain : PySem.W.nsIn K mainGlobals "_law_chain" = some (some (.ref f_law_chain)))
    (a_is_name : PySem.W.nsIn K mainGlobals "is_name" = some (some (.ref f_is_name)))
    (a_need_name : PySem.W.nsIn K mainGlobals "need_name" = some (some (.ref f_need_name)))
    (a_is_integer : PySem.W.nsIn K mainGlobals "is_integer" = some (some (.ref f_is_integer)))
    (a_Office : PySem.W.nsIn K mainGlobals "Office" = some (some (.ref C_Office)))
    (a_is_rate : PySem.W.nsIn K mainGlobals "is_rate" = some (some (.ref f_is_rate)))
    (a_need_integer : PySem.W.nsIn K mainGlobals "need_integer" = some (some (.ref f_need_integer)))
    (a_CappedOffice : PySem.W.nsIn K mainGlobals "CappedOffice" = some (some (.ref C_CappedOffice)))
    (a_law_made : PySem.W.nsIn K mainGlobals "_law_made" = some (some (.ref f_law_made)))
    (a_Route : PySem.W.nsIn K mainGlobals "Route" = some (some (.ref C_Route)))
    (a_law_route : PySem.W.nsIn K mainGlobals "_law_route" = some (some (.ref f_law_route)))
    (a_law_amount : PySem.W.nsIn K mainGlobals "_law_amount" = some (some (.ref f_law_amount)))
    (a_law_route_amount : PySem.W.nsIn K mainGlobals "_law_route_amount" = some (some (.ref f_law_route_amount)))
    (a_law_is_plain : PySem.W.nsIn K mainGlobals "_law_is_plain" = some (some (.ref f_law_is_plain)))
    (a_need_amount : PySem.W.nsIn K mainGlobals "need_amount" = some (some (.ref f_need_amount)))
    (a_Closed : PySem.W.nsIn K mainGlobals "Closed" = some (some (.ref C_Closed)))
    (a_law : PySem.W.nsIn K mainGlobals "law" = some (some (.ref f_law)))
    (mi_Office : PySem.W.findIn K (.ref C_Office) "__init__" = some (some (.ref f_Office_init)))
    (mi_CappedOffice : PySem.W.findIn K (.ref C_CappedOffice) "__init__" = some (some (.ref f_CappedOffice_init)))
    (m_CappedOffice_source : PySem.W.findIn K (.ref C_CappedOffice) "source" = some (some (.ref p_Office_source)))
    (m_Office_source : PySem.W.findIn K (.ref C_Office) "source" = some (some (.ref p_Office_source)))
    (m_CappedOffice_goal : PySem.W.findIn K (.ref C_CappedOffice) "goal" = some (some (.ref p_Office_goal)))
    (m_Office_goal : PySem.W.findIn K (.ref C_Office) "goal" = some (some (.ref p_Office_goal)))
    (mi_Route : PySem.W.findIn K (.ref C_Route) "__init__" = some (some (.ref f_Route_init)))
    (bm_Route_add : PySem.W.findIn K (.ref C_Route) (PySem.dunder "add") = some (some (.ref f_Route_add)))
    (m_CappedOffice_result : PySem.W.findIn K (.ref C_CappedOffice) "result" = some (some (.ref f_CappedOffice_result)))
    (m_Office_result : PySem.W.findIn K (.ref C_Office) "result" = some (some (.ref f_Office_result)))
    (m_Route_result : PySem.W.findIn K (.ref C_Route) "result" = some (some (.ref f_Route_result)))
    (xi_Closed : PySem.W.findIn K (.ref C_Closed) "__init__" = some (some (.ref f_Closed_init)))
    (m_Route_holdings : PySem.W.findIn K (.ref C_Route) "holdings" = some (some (.ref f_Route_holdings)))
    (m_Route_call : PySem.W.findIn K (.ref C_Route) "__call__" = some (some (.ref f_Route_call)))
    (m_CappedOffice_call : PySem.W.findIn K (.ref C_CappedOffice) "__call__" = some (some (.ref f_Office_call)))
    (m_Office_call : PySem.W.findIn K (.ref C_Office) "__call__" = some (some (.ref f_Office_call)))
    (pr_Office_source : PySem.W.recIn K p_Office_source "property" = some (.ref f_Office_source :: pz_Office_source))
    (pr_Office_goal : PySem.W.recIn K p_Office_goal "property" = some (.ref f_Office_goal :: pz_Office_goal))
    (l_law_pen : K.lookup f_law_pen = some ⟨oc_law_pen, od_law_pen, .func (PySem.W.fnOf "_law_pen" "_law_pen" (defArgs s_law_pen) (defBody s_law_pen) (defScope s_law_pen) .none kV_law_pen dc_law_pen pm_law_pen an_law_pen cd_law_pen ct_law_pen), sl_law_pen⟩)
    (l_law_draw : K.lookup f_law_draw = some ⟨oc_law_draw, od_law_draw, .func (PySem.W.fnOf "_law_draw" "_law_draw" (defArgs s_law_draw) (defBody s_law_draw) (defScope s_law_draw) .none kV_law_draw dc_law_draw pm_law_draw an_law_draw cd_law_draw ct_law_draw), sl_law_draw⟩)
    (l_law_pick : K.lookup f_law_pick = some ⟨oc_law_pick, od_law_pick, .func (PySem.W.fnOf "_law_pick" "_law_pick" (defArgs s_law_pick) (defBody s_law_pick) (defScope s_law_pick) .none kV_law_pick dc_law_pick pm_law_pick an_law_pick cd_law_pick ct_law_pick), sl_law_pick⟩)
    (l_law_names : K.lookup f_law_names = some ⟨oc_law_names, od_law_names, .func (PySem.W.fnOf "_law_names" "_law_names" (defArgs s_law_names) (defBody s_law_names) (defScope s_law_names) .none kV_law_names dc_law_names pm_law_names an_law_names cd_law_names ct_law_names), sl_law_names⟩)
    (l_law_digits : K.lookup f_law_digits = some ⟨oc_law_digits, od_law_digits, .func (PySem.W.fnOf "_law_digits" "_law_digits" (defArgs s_law_digits) (defBody s_law_digits) (defScope s_law_digits) .none kV_law_digits dc_law_digits pm_law_digits an_law_digits cd_law_digits ct_law_digits), sl_law_digits⟩)
    (l_law_row : K.lookup f_law_row = some ⟨oc_law_row, od_law_row, .func (PySem.W.fnOf "_law_row" "_law_row" (defArgs s_law_row) (defBody s_law_row) (defScope s_law_row) .none kV_law_row dc_law_row pm_law_row an_law_row cd_law_row ct_law_row), sl_law_row⟩)
    (l_law_chain : K.lookup f_law_chain = some ⟨oc_law_chain, od_law_chain, .func (PySem.W.fnOf "_law_chain" "_law_chain" (defArgs s_law_chain) (defBody s_law_chain) (defScope s_law_chain) .none kV_law_chain dc_law_chain pm_law_chain an_law_chain cd_law_chain ct_law_chain), sl_law_chain⟩)
    (l_is_name : K.lookup f_is_name = some ⟨oc_is_name, od_is_name, .func (PySem.W.fnOf "is_name" "is_name" (defArgs s_is_name) (defBody s_is_name) (defScope s_is_name) .none kV_is_name dc_is_name pm_is_name an_is_name cd_is_name ct_is_name), sl_is_name⟩)
    (l_need_name : K.lookup f_need_name = some ⟨oc_need_name, od_need_name, .func (PySem.W.fnOf "need_name" "need_name" (defArgs s_need_name) (defBody s_need_name) (defScope s_need_name) .none kV_need_name dc_need_name pm_need_name an_need_name cd_need_name ct_need_name), sl_need_name⟩)
    (l_is_integer : K.lookup f_is_integer = some ⟨oc_is_integer, od_is_integer, .func (PySem.W.fnOf "is_integer" "is_integer" (defArgs s_is_integer) (defBody s_is_integer) (defScope s_is_integer) .none kV_is_integer dc_is_integer pm_is_integer an_is_integer cd_is_integer ct_is_integer), sl_is_integer⟩)
    (l_is_rate : K.lookup f_is_rate = some ⟨oc_is_rate, od_is_rate, .func (PySem.W.fnOf "is_rate" "is_rate" (defArgs s_is_rate) (defBody s_is_rate) (defScope s_is_rate) .none kV_is_rate dc_is_rate pm_is_rate an_is_rate cd_is_rate ct_is_rate), sl_is_rate⟩)
    (l_need_integer : K.lookup f_need_integer = some ⟨oc_need_integer, od_need_integer, .func (PySem.W.fnOf "need_integer" "need_integer" (defArgs s_need_integer) (defBody s_need_integer) (defScope s_need_integer) .none kV_need_integer dc_need_integer pm_need_integer an_need_integer cd_need_integer ct_need_integer), sl_need_integer⟩)
    (l_Office_init : K.lookup f_Office_init = some ⟨oc_Office_init, od_Office_init, .func (PySem.W.fnOf "__init__" "Office.__init__" (defArgs s_Office_init) (defBody s_Office_init) (defScope s_Office_init) .none kV_Office_init dc_Office_init pm_Office_init an_Office_init cd_Office_init ct_Office_init), sl_Office_init⟩)
    (l_CappedOffice_init : K.lookup f_CappedOffice_init = some ⟨oc_CappedOffice_init, od_CappedOffice_init, .func (PySem.W.fnX "__init__" "CappedOffice.__init__" (defArgs s_CappedOffice_init) (defBody s_CappedOffice_init) (defScope s_CappedOffice_init) [("__class__", cc_CappedOffice_init)] .none kV_CappedOffice_init dc_CappedOffice_init pm_CappedOffice_init an_CappedOffice_init (.ref cda_CappedOffice_init) ct_CappedOffice_init), sl_CappedOffice_init⟩)
    (l_law_made : K.lookup f_law_made = some ⟨oc_law_made, od_law_made, .func (PySem.W.fnOf "_law_made" "_law_made" (defArgs s_law_made) (defBody s_law_made) (defScope s_law_made) .none kV_law_made dc_law_made pm_law_made an_law_made cd_law_made ct_law_made), sl_law_made⟩)
    (l_Office_source : K.lookup f_Office_source = some ⟨oc_Office_source, od_Office_source, .func (PySem.W.fnOf "source" "Office.source" (defArgs s_Office_source) (defBody s_Office_source) (defScope s_Office_source) .none kV_Office_source dc_Office_source pm_Office_source an_Office_source cd_Office_source ct_Office_source), sl_Office_source⟩)
    (l_Office_goal : K.lookup f_Office_goal = some ⟨oc_Office_goal, od_Office_goal, .func (PySem.W.fnOf "goal" "Office.goal" (defArgs s_Office_goal) (defBody s_Office_goal) (defScope s_Office_goal) .none kV_Office_goal dc_Office_goal pm_Office_goal an_Office_goal cd_Office_goal ct_Office_goal), sl_Office_goal⟩)
    (l_Route_init : K.lookup f_Route_init = some ⟨oc_Route_init, od_Route_init, .func (PySem.W.fnOf "__init__" "Route.__init__" (defArgs s_Route_init) (defBody s_Route_init) (defScope s_Route_init) .none kV_Route_init dc_Route_init pm_Route_init an_Route_init cd_Route_init ct_Route_init), sl_Route_init⟩)
    (l_Route_add : K.lookup f_Route_add = some ⟨oc_Route_add, od_Route_add, .func (PySem.W.fnOf "__add__" "Route.__add__" (defArgs s_Route_add) (defBody s_Route_add) (defScope s_Route_add) .none kV_Route_add dc_Route_add pm_Route_add an_Route_add cd_Route_add ct_Route_add), sl_Route_add⟩)
    (l_law_route : K.lookup f_law_route = some ⟨oc_law_route, od_law_route, .func (PySem.W.fnOf "_law_route" "_law_route" (defArgs s_law_route) (defBody s_law_route) (defScope s_law_route) .none kV_law_route dc_law_route pm_law_route an_law_route cd_law_route ct_law_route), sl_law_route⟩)
    (l_law_amount : K.lookup f_law_amount = some ⟨oc_law_amount, od_law_amount, .func (PySem.W.fnOf "_law_amount" "_law_amount" (defArgs s_law_amount) (defBody s_law_amount) (defScope s_law_amount) .none kV_law_amount dc_law_amount pm_law_amount an_law_amount cd_law_amount ct_law_amount), sl_law_amount⟩)
    (l_law_route_amount : K.lookup f_law_route_amount = some ⟨oc_law_route_amount, od_law_route_amount, .func (PySem.W.fnOf "_law_route_amount" "_law_route_amount" (defArgs s_law_route_amount) (defBody s_law_route_amount) (defScope s_law_route_amount) .none kV_law_route_amount dc_law_route_amount pm_law_route_amount an_law_route_amount cd_law_route_amount ct_law_route_amount), sl_law_route_amount⟩)
    (l_law_is_plain : K.lookup f_law_is_plain = some ⟨oc_law_is_plain, od_law_is_plain, .func (PySem.W.fnOf "_law_is_plain" "_law_is_plain" (defArgs s_law_is_plain) (defBody s_law_is_plain) (defScope s_law_is_plain) .none kV_law_is_plain dc_law_is_plain pm_law_is_plain an_law_is_plain cd_law_is_plain ct_law_is_plain), sl_law_is_plain⟩)
    (l_need_amount : K.lookup f_need_amount = some ⟨oc_need_amount, od_need_amount, .func (PySem.W.fnOf "need_amount" "need_amount" (defArgs s_need_amount) (defBody s_need_amount) (defScope s_need_amount) .none kV_need_amount dc_need_amount pm_need_amount an_need_amount cd_need_amount ct_need_amount), sl_need_amount⟩)
    (l_Office_result : K.lookup f_Office_result = some ⟨oc_Office_result, od_Office_result, .func (PySem.W.fnOf "result" "Office.result" (defArgs s_Office_result) (defBody s_Office_result) (defScope s_Office_result) .none kV_Office_result dc_Office_result pm_Office_result an_Office_result cd_Office_result ct_Office_result), sl_Office_result⟩)
    (l_CappedOffice_result : K.lookup f_CappedOffice_result = some ⟨oc_CappedOffice_result, od_CappedOffice_result, .func (PySem.W.fnX "result" "CappedOffice.result" (defArgs s_CappedOffice_result) (defBody s_CappedOffice_result) (defScope s_CappedOffice_result) [("__class__", cc_CappedOffice_result)] .none kV_CappedOffice_result dc_CappedOffice_result pm_CappedOffice_result an_CappedOffice_result (.ref cda_CappedOffice_result) ct_CappedOffice_result), sl_CappedOffice_result⟩)
    (l_Route_result : K.lookup f_Route_result = some ⟨oc_Route_result, od_Route_result, .func (PySem.W.fnOf "result" "Route.result" (defArgs s_Route_result) (defBody s_Route_result) (defScope s_Route_result) .none kV_Route_result dc_Route_result pm_Route_result an_Route_result cd_Route_result ct_Route_result), sl_Route_result⟩)
    (l_Closed_init : K.lookup f_Closed_init = some ⟨oc_Closed_init, od_Closed_init, .func (PySem.W.fnOf "__init__" "Closed.__init__" (defArgs s_Closed_init) (defBody s_Closed_init) (defScope s_Closed_init) .none kV_Closed_init dc_Closed_init pm_Closed_init an_Closed_init cd_Closed_init ct_Closed_init), sl_Closed_init⟩)
    (xc_Closed : K.lookup C_Closed = some (PySem.excClassObj xa_Closed xb_Closed C_Closed xd_Closed xe_Closed [.type "RuntimeError", .type "Exception", .type "BaseException", .type "object"] true xf_Closed xg_Closed xh_Closed xj_Closed xk_Closed xl_Closed xm_Closed xo_Closed xp_Closed xr_Closed "RuntimeError.__new__"))
    (l_Route_holdings : K.lookup f_Route_holdings = some ⟨oc_Route_holdings, od_Route_holdings, .func (PySem.W.fnOf "holdings" "Route.holdings" (defArgs s_Route_holdings) (defBody s_Route_holdings) (defScope s_Route_holdings) .none kV_Route_holdings dc_Route_holdings pm_Route_holdings an_Route_holdings cd_Route_holdings ct_Route_holdings), sl_Route_holdings⟩)
    (l_Route_call : K.lookup f_Route_call = some ⟨oc_Route_call, od_Route_call, .func (PySem.W.fnOf "__call__" "Route.__call__" (defArgs s_Route_call) (defBody s_Route_call) (defScope s_Route_call) .none kV_Route_call dc_Route_call pm_Route_call an_Route_call cd_Route_call ct_Route_call), sl_Route_call⟩)
    (l_Office_call : K.lookup f_Office_call = some ⟨oc_Office_call, od_Office_call, .func (PySem.W.fnOf "__call__" "Office.__call__" (defArgs s_Office_call) (defBody s_Office_call) (defScope s_Office_call) .none kV_Office_call dc_Office_call pm_Office_call an_Office_call cd_Office_call ct_Office_call), sl_Office_call⟩)
    (l_law : K.lookup f_law = some ⟨oc_law, od_law, .func (PySem.W.fnOf "law" "law" (defArgs s_law) (defBody s_law) (defScope s_law) .none kV_law dc_law pm_law an_law cd_law ct_law), sl_law⟩)
    (e_CappedOffice_init : K.lookup cc_CappedOffice_init = some ⟨oce_CappedOffice_init, ode_CappedOffice_init, .cell (some (.ref C_CappedOffice)), sle_CappedOffice_init⟩)
    (g_CappedOffice_init : K.lookup cda_CappedOffice_init = some ⟨ocg_CappedOffice_init, odg_CappedOffice_init, .fields vsg_CappedOffice_init, slg_CappedOffice_init⟩)
    (e_CappedOffice_result : K.lookup cc_CappedOffice_result = some ⟨oce_CappedOffice_result, ode_CappedOffice_result, .cell (some (.ref C_CappedOffice)), sle_CappedOffice_result⟩)
    (g_CappedOffice_result : K.lookup cda_CappedOffice_result = some ⟨ocg_CappedOffice_result, odg_CappedOffice_result, .fields vsg_CappedOffice_result, slg_CappedOffice_result⟩)
    (z_list : PySem.W.nsIn K mainGlobals "list" = some none)
    (c_law_pen : PySem.W.codeIn K cd_law_pen "_law_pen" = true)
    (k_law_pen : PySem.W.keepIn K (.ref f_law_pen) = true)
    (z_range : PySem.W.nsIn K mainGlobals "range" = some none)
    (z_int : PySem.W.nsIn K mainGlobals "int" = some none)
    (z_len : PySem.W.nsIn K mainGlobals "len" = some none)
    (z_abs : PySem.W.nsIn K mainGlobals "abs" = some none)
    (c_law_draw : PySem.W.codeIn K cd_law_draw "_law_draw" = true)
    (k_law_draw : PySem.W.keepIn K (.ref f_law_draw) = true)
    (c_law_pick : PySem.W.codeIn K cd_law_pick "_law_pick" = true)
    (k_law_pick : PySem.W.keepIn K (.ref f_law_pick) = true)
    (c_law_names : PySem.W.codeIn K cd_law_names "_law_names" = true)
    (k_law_names : PySem.W.keepIn K (.ref f_law_names) = true)
    (c_law_digits : PySem.W.codeIn K cd_law_digits "_law_digits" = true)
    (k_law_digits : PySem.W.keepIn K (.ref f_law_digits) = true)
    (z_min : PySem.W.nsIn K mainGlobals "min" = some none)
    (c_law_row : PySem.W.codeIn K cd_law_row "_law_row" = true)
    (k_law_row : PySem.W.keepIn K (.ref f_law_row) = true)
    (c_law_chain : PySem.W.codeIn K cd_law_chain "_law_chain" = true)
    (k_law_chain : PySem.W.keepIn K (.ref f_law_chain) = true)
    (gs_ALPHABET : PySem.W.nsIn K mainGlobals "ALPHABET" = some (some (.str "abcdefghijklmnopqrstuvwxyz" tg_ALPHABET)))
    (z_all : PySem.W.nsIn K mainGlobals "all" = some none)
    (gi_LETTERS : PySem.W.nsIn K mainGlobals "LETTERS" = some (some (.int 8 tg_LETTERS)))
    (z_isinstance : PySem.W.nsIn K mainGlobals "isinstance" = some none)
    (z_str : PySem.W.nsIn K mainGlobals "str" = some none)
    (c_is_name : PySem.W.codeIn K cd_is_name "is_name" = true)
    (k_is_name : PySem.W.keepIn K (.ref f_is_name) = true)
    (c_need_name : PySem.W.codeIn K cd_need_name "need_name" = true)
    (k_need_name : PySem.W.keepIn K (.ref f_need_name) = true)
    (z_tuple : PySem.W.nsIn K mainGlobals "tuple" = some none)
    (z_bool : PySem.W.nsIn K mainGlobals "bool" = some none)
    (c_is_integer : PySem.W.codeIn K cd_is_integer "is_integer" = true)
    (k_is_integer : PySem.W.keepIn K (.ref f_is_integer) = true)
    (cr_Office : PySem.W.readsIn K C_Office (.type "type") = true)
    (cq_Office : PySem.W.specialIn K (.ref C_Office) "__getattribute__" = some (some (.builtin "type.__getattribute__")))
    (cv_Office_RATE : PySem.W.findCls K (.ref C_Office) (.type "type") "RATE" = some (.val (.int 9 tv_Office_RATE)))
    (c_is_rate : PySem.W.codeIn K cd_is_rate "is_rate" = true)
    (k_is_rate : PySem.W.keepIn K (.ref f_is_rate) = true)
    (c_need_integer : PySem.W.codeIn K cd_need_integer "need_integer" = true)
    (k_need_integer : PySem.W.keepIn K (.ref f_need_integer) = true)
    (cg_CappedOffice : PySem.W.plainGet K C_CappedOffice Str.empty = true)
    (ch_CappedOffice : PySem.W.hasDictIn K C_CappedOffice = true)
    (co_CappedOffice : PySem.W.plainOver K C_CappedOffice = true)
    (cs_CappedOffice : PySem.W.findIn K (.ref C_CappedOffice) "__setattr__" = some (some (.builtin "object.__setattr__")))
    (ck_CappedOffice_FEE : PySem.W.findIn K (.ref C_CappedOffice) "FEE" = some (some (.int 20 tk_CappedOffice_FEE)))
    (cg_Office : PySem.W.plainGet K C_Office Str.empty = true)
    (ch_Office : PySem.W.hasDictIn K C_Office = true)
    (co_Office : PySem.W.plainOver K C_Office = true)
    (cs_Office : PySem.W.findIn K (.ref C_Office) "__setattr__" = some (some (.builtin "object.__setattr__")))
    (ck_Office_FEE : PySem.W.findIn K (.ref C_Office) "FEE" = some (some (.int 20 tk_Office_FEE)))
    (ck_CappedOffice_LEAST : PySem.W.findIn K (.ref C_CappedOffice) "LEAST" = some (some (.int 1000 tk_CappedOffice_LEAST)))
    (ck_Office_LEAST : PySem.W.findIn K (.ref C_Office) "LEAST" = some (some (.int 1000 tk_Office_LEAST)))
    (na_CappedOffice_name : PySem.W.findIn K (.ref C_CappedOffice) "name" = some none)
    (na_Office_name : PySem.W.findIn K (.ref C_Office) "name" = some none)
    (na_CappedOffice_own_ends : PySem.W.findIn K (.ref C_CappedOffice) "own_ends" = some none)
    (na_Office_own_ends : PySem.W.findIn K (.ref C_Office) "own_ends" = some none)
    (na_CappedOffice_own_rate : PySem.W.findIn K (.ref C_CappedOffice) "own_rate" = some none)
    (na_Office_own_rate : PySem.W.findIn K (.ref C_Office) "own_rate" = some none)
    (na_CappedOffice_own_fee : PySem.W.findIn K (.ref C_CappedOffice) "own_fee" = some none)
    (na_Office_own_fee : PySem.W.findIn K (.ref C_Office) "own_fee" = some none)
    (na_CappedOffice_own_least : PySem.W.findIn K (.ref C_CappedOffice) "own_least" = some none)
    (na_Office_own_least : PySem.W.findIn K (.ref C_Office) "own_least" = some none)
    (c_Office_init : PySem.W.codeIn K cd_Office_init "Office.__init__" = true)
    (k_Office_init : PySem.W.keepIn K (.ref f_Office_init) = true)
    (mm_Office : PySem.W.makesIn K C_Office = true)
    (mf_Office_init : PySem.W.isFn K (.ref f_Office_init) = true)
    (mc_Office : PySem.W.keepIn K (.ref C_Office) = true)
    (sr_CappedOffice_CappedOffice : PySem.W.mroIn K C_CappedOffice (.ref C_CappedOffice) = some true)
    (sa_CappedOffice_CappedOffice_init : PySem.W.ks_superIn K C_CappedOffice C_CappedOffice "__init__" = some (some (.ref f_Office_init)))
    (st_Office_init : PySem.W.typeIn K (.ref f_Office_init) = some (.type "function"))
    (fi_Office_init : PySem.W.fnIn K f_Office_init = true)
    (zo_any : PySem.W.nsIn K cStatics "thirdparty.any" = some none)
    (ck_CappedOffice_MOST : PySem.W.findIn K (.ref C_CappedOffice) "MOST" = some (some (.int 1000000 tk_CappedOffice_MOST)))
    (na_CappedOffice_own_most : PySem.W.findIn K (.ref C_CappedOffice) "own_most" = some none)
    (c_CappedOffice_init : PySem.W.codeIn K (.ref cda_CappedOffice_init) "CappedOffice.__init__" = true)
    (h_CappedOffice_init : vsg_CappedOffice_init[2]? = some (.str fi_CappedOffice_init tf_CappedOffice_init))
    (i_CappedOffice_init : ((l.prog.main.file : Str) == fi_CappedOffice_init) = true)
    (cd_CappedOffice : PySem.W.clsIn K C_CappedOffice = some cdd_CappedOffice)
    (z_super : PySem.W.nsIn K mainGlobals "super" = some none)
    (zt_super : (l.prog.main.scope.names.lookup ("super" : Str)).isSome = false)
    (mm_CappedOffice : PySem.W.makesIn K C_CappedOffice = true)
    (mf_CappedOffice_init : PySem.W.isFn K (.ref f_CappedOffice_init) = true)
    (mc_CappedOffice : PySem.W.keepIn K (.ref C_CappedOffice) = true)
    (c_law_made : PySem.W.codeIn K cd_law_made "_law_made" = true)
    (k_law_made : PySem.W.keepIn K (.ref f_law_made) = true)
    (kb_Office_NoneType : PySem.W.kitOne K (.type "NoneType") (.ref C_Office) = some false)
    (kb_Office_bool : PySem.W.kitOne K (.type "bool") (.ref C_Office) = some false)
    (kb_Office_int : PySem.W.kitOne K (.type "int") (.ref C_Office) = some false)
    (kb_Office_str : PySem.W.kitOne K (.type "str") (.ref C_Office) = some false)
    (kb_Office_tuple : PySem.W.kitOne K (.type "tuple") (.ref C_Office) = some false)
    (kb_Office_list : PySem.W.kitOne K (.type "list") (.ref C_Office) = some false)
    (kb_Office_dict : PySem.W.kitOne K (.type "dict") (.ref C_Office) = some false)
    (cg_Route : PySem.W.plainGet K C_Route Str.empty = true)
    (ch_Route : PySem.W.hasDictIn K C_Route = true)
    (co_Route : PySem.W.plainOver K C_Route = true)
    (cs_Route : PySem.W.findIn K (.ref C_Route) "__setattr__" = some (some (.builtin "object.__setattr__")))
    (ia_Route : PySem.W.findIn K (.ref C_Route) "__class__" = some (some (.builtin "object.__class__")))
    (iz_hn : PySem.W.specialIn K (.builtin "object.__class__") "__get__" = some (some (.builtin "getset_descriptor.__get__")))
    (iz_htk : PySem.W.takesIn K (.builtin "object.__class__") = some true)
    (io_Route : PySem.W.mroIn K C_Route (.type "object") = some true)
    (kt_Route_Route : PySem.W.kitOne K (.ref C_Route) (.ref C_Route) = some true)
    (kt_Route_Office : PySem.W.kitOne K (.ref C_Route) (.ref C_Office) = some false)
    (ia_CappedOffice : PySem.W.findIn K (.ref C_CappedOffice) "__class__" = some (some (.builtin "object.__class__")))
    (io_CappedOffice : PySem.W.mroIn K C_CappedOffice (.type "object") = some true)
    (kt_CappedOffice_CappedOffice : PySem.W.kitOne K (.ref C_CappedOffice) (.ref C_CappedOffice) = some true)
    (kt_CappedOffice_Office : PySem.W.kitOne K (.ref C_CappedOffice) (.ref C_Office) = some true)
    (ia_Office : PySem.W.findIn K (.ref C_Office) "__class__" = some (some (.builtin "object.__class__")))
    (io_Office : PySem.W.mroIn K C_Office (.type "object") = some true)
    (kt_Office_Office : PySem.W.kitOne K (.ref C_Office) (.ref C_Office) = some true)
    (z_enumerate : PySem.W.nsIn K mainGlobals "enumerate" = some none)
    (pg_Office_source : PySem.W.specialIn K (.ref p_Office_source) "__get__" = some (some (.builtin "property.__get__")))
    (pt_Office_source : PySem.W.takesIn K (.ref p_Office_source) = some true)
    (c_Office_source : PySem.W.codeIn K cd_Office_source "Office.source" = true)
    (k_Office_source : PySem.W.keepIn K (.ref f_Office_source) = true)
    (pg_Office_goal : PySem.W.specialIn K (.ref p_Office_goal) "__get__" = some (some (.builtin "property.__get__")))
    (pt_Office_goal : PySem.W.takesIn K (.ref p_Office_goal) = some true)
    (c_Office_goal : PySem.W.codeIn K cd_Office_goal "Office.goal" = true)
    (k_Office_goal : PySem.W.keepIn K (.ref f_Office_goal) = true)
    (ck_Route_LENGTH : PySem.W.findIn K (.ref C_Route) "LENGTH" = some (some (.int 1000 tk_Route_LENGTH)))
    (na_Route_own_start : PySem.W.findIn K (.ref C_Route) "own_start" = some none)
    (na_Route_own_end : PySem.W.findIn K (.ref C_Route) "own_end" = some none)
    (na_Route_own_offices : PySem.W.findIn K (.ref C_Route) "own_offices" = some none)
    (c_Route_init : PySem.W.codeIn K cd_Route_init "Route.__init__" = true)
    (k_Route_init : PySem.W.keepIn K (.ref f_Route_init) = true)
    (mm_Route : PySem.W.makesIn K C_Route = true)
    (mf_Route_init : PySem.W.isFn K (.ref f_Route_init) = true)
    (mc_Route : PySem.W.keepIn K (.ref C_Route) = true)
    (c_Route_add : PySem.W.codeIn K cd_Route_add "Route.__add__" = true)
    (k_Route_add : PySem.W.keepIn K (.ref f_Route_add) = true)
    (sf_Route : PySem.W.selfFirst K C_Route = true)
    (mf_Route_add : PySem.W.isFn K (.ref f_Route_add) = true)
    (h_eq_Route_CappedOffice : (Value.ref C_Route == Value.ref C_CappedOffice) = false)
    (h_mro_CappedOffice : cdd_CappedOffice.mro = [.ref C_CappedOffice, .ref C_Office, .type "object"])
    (nl_add_object : PySem.W.findIn K (.type "object") (PySem.dunder "add") = some none)
    (nr2_add_object : PySem.W.findIn K (.type "object") (dunderR "add") = some none)
    (nl_add_Office : PySem.W.findIn K (.ref C_Office) (PySem.dunder "add") = some none)
    (nr2_add_Office : PySem.W.findIn K (.ref C_Office) (dunderR "add") = some none)
    (nl_add_CappedOffice : PySem.W.findIn K (.ref C_CappedOffice) (PySem.dunder "add") = some none)
    (nr2_add_CappedOffice : PySem.W.findIn K (.ref C_CappedOffice) (dunderR "add") = some none)
    (h_eq_Route_Office : (Value.ref C_Route == Value.ref C_Office) = false)
    (cd_Office : PySem.W.clsIn K C_Office = some cdd_Office)
    (h_mro_Office : cdd_Office.mro = [.ref C_Office, .type "object"])
    (c_law_route : PySem.W.codeIn K cd_law_route "_law_route" = true)
    (k_law_route : PySem.W.keepIn K (.ref f_law_route) = true)
    (z_max : PySem.W.nsIn K mainGlobals "max" = some none)
    (c_law_amount : PySem.W.codeIn K cd_law_amount "_law_amount" = true)
    (k_law_amount : PySem.W.keepIn K (.ref f_law_amount) = true)
    (c_law_route_amount : PySem.W.codeIn K cd_law_route_amount "_law_route_amount" = true)
    (k_law_route_amount : PySem.W.keepIn K (.ref f_law_route_amount) = true)
    (c_law_is_plain : PySem.W.codeIn K cd_law_is_plain "_law_is_plain" = true)
    (k_law_is_plain : PySem.W.keepIn K (.ref f_law_is_plain) = true)
    (gi_COINS : PySem.W.nsIn K mainGlobals "COINS" = some (some (.int 1000000000000000000000000000000 tg_COINS)))
    (c_need_amount : PySem.W.codeIn K cd_need_amount "need_amount" = true)
    (k_need_amount : PySem.W.keepIn K (.ref f_need_amount) = true)
    (sa_CappedOffice_CappedOffice_result : PySem.W.ks_superIn K C_CappedOffice C_CappedOffice "result" = some (some (.ref f_Office_result)))
    (st_Office_result : PySem.W.typeIn K (.ref f_Office_result) = some (.type "function"))
    (fi_Office_result : PySem.W.fnIn K f_Office_result = true)
    (c_Office_result : PySem.W.codeIn K cd_Office_result "Office.result" = true)
    (k_Office_result : PySem.W.keepIn K (.ref f_Office_result) = true)
    (mf_CappedOffice_result : PySem.W.isFn K (.ref f_CappedOffice_result) = true)
    (k_CappedOffice_result : PySem.W.keepIn K (.ref f_CappedOffice_result) = true)
    (c_CappedOffice_result : PySem.W.codeIn K (.ref cda_CappedOffice_result) "CappedOffice.result" = true)
    (h_CappedOffice_result : vsg_CappedOffice_result[2]? = some (.str fi_CappedOffice_result tf_CappedOffice_result))
    (i_CappedOffice_result : ((l.prog.main.file : Str) == fi_CappedOffice_result) = true)
    (mf_Office_result : PySem.W.isFn K (.ref f_Office_result) = true)
    (mf_Route_result : PySem.W.isFn K (.ref f_Route_result) = true)
    (k_Route_result : PySem.W.keepIn K (.ref f_Route_result) = true)
    (c_Route_result : PySem.W.codeIn K cd_Route_result "Route.result" = true)
    (c_Closed_init : PySem.W.codeIn K cd_Closed_init "Closed.__init__" = true)
    (k_Closed_init : PySem.W.keepIn K (.ref f_Closed_init) = true)
    (xs_Closed : PySem.W.findIn K (.ref C_Closed) "__setattr__" = some (some (.builtin "object.__setattr__")))
    (xE_Closed : PySem.W.subIn K (.ref C_Closed) (.type "BaseException") = some true)
    (xt_Closed : PySem.W.typeIn K (.ref C_Closed) = some (.type "type"))
    (xK_Closed : PySem.W.keepIn K (.ref C_Closed) = true)
    (st_Closed_init : PySem.W.typeIn K (.ref f_Closed_init) = some (.type "function"))
    (xo__Closed : PySem.W.findIn K (.ref C_Closed) "name" = some none)
    (xv_RuntimeError : PySem.W.findCls K (.type "RuntimeError") (.type "type") "__init__" = some (.val (.builtin "RuntimeError.__init__")))
    (z_RuntimeError : PySem.W.nsIn K mainGlobals "RuntimeError" = some none)
    (ns_Closed : PySem.W.subIn K (.ref C_Closed) (.type "StopIteration") = some false)
    (mf_Route_holdings : PySem.W.isFn K (.ref f_Route_holdings) = true)
    (k_Route_holdings : PySem.W.keepIn K (.ref f_Route_holdings) = true)
    (c_Route_holdings : PySem.W.codeIn K cd_Route_holdings "Route.holdings" = true)
    (mf_Route_call : PySem.W.isFn K (.ref f_Route_call) = true)
    (fi_Route_call : PySem.W.fnIn K f_Route_call = true)
    (c_Route_call : PySem.W.codeIn K cd_Route_call "Route.__call__" = true)
    (k_Route_call : PySem.W.keepIn K (.ref f_Route_call) = true)
    (mf_Office_call : PySem.W.isFn K (.ref f_Office_call) = true)
    (fi_Office_call : PySem.W.fnIn K f_Office_call = true)
    (c_Office_call : PySem.W.codeIn K cd_Office_call "Office.__call__" = true)
    (k_Office_call : PySem.W.keepIn K (.ref f_Office_call) = true)
    (c_law : PySem.W.codeIn K cd_law "law" = true)
    (k_law : PySem.W.keepIn K (.ref f_law) = true)
    : ∃ fd : FuncData, (∀ (s : Shared) (v : Value), BindsTo s fd ⟨[v], []⟩ [("_law_script", v)]) ∧ ∀ base : Heap, K.In base → base.Ns mainGlobals mg → FnG l.prog w K mg base (L2.CX l.prog w) 8 fa fd ["_law_script"] (spM K 1 m_law) := by
  have e := hfa.symm.trans (PySem.W.mg_of X G a_law)
  cases e
  have y_b_list : mg "list" = none := PySem.W.mg_none_of X G z_list
  have y_fn_law_pen : FnP K mg "_law_pen" s_law_pen ["_law_script"] := ⟨_, _, PySem.W.mg_of X G a_law_pen, (funMk (st := s_law_pen) l_law_pen c_law_pen k_law_pen), binds_of (kbN (ps := ["_law_script"]) (n := 1) (ks := []) fun us ws h1 h2 => match us, h1, ws, h2 with | [_], _, [], _ => rfl) rfl⟩
  have y_b_range : mg "range" = none := PySem.W.mg_none_of X G z_range
  have y_b_int : mg "int" = none := PySem.W.mg_none_of X G z_int
  have y_b_len : mg "len" = none := PySem.W.mg_none_of X G z_len
  have y_b_abs : mg "abs" = none := PySem.W.mg_none_of X G z_abs
  have y_fn_law_draw : FnP K mg "_law_draw" s_law_draw ["_law_pen_here", "_law_many"] := ⟨_, _, PySem.W.mg_of X G a_law_draw, (funMk (st := s_law_draw) l_law_draw c_law_draw k_law_draw), binds_of (kbN (ps := ["_law_pen_here", "_law_many"]) (n := 2) (ks := []) fun us ws h1 h2 => match us, h1, ws, h2 with | [_, _], _, [], _ => rfl) rfl⟩
  have y_fn_law_pick : FnP K mg "_law_pick" s_law_pick ["_law_pen_here", "_law_some"] := ⟨_, _, PySem.W.mg_of X G a_law_pick, (funMk (st := s_law_pick) l_law_pick c_law_pick k_law_pick), binds_of (kbN (ps := ["_law_pen_here", "_law_some"]) (n := 2) (ks := []) fun us ws h1 h2 => match us, h1, ws, h2 with | [_, _], _, [], _ => rfl) rfl⟩
  have y_fn_law_names : FnP K mg "_law_names" s_law_names ["_law_pen_here", "_law_many"] := ⟨_, _, PySem.W.mg_of X G a_law_names, (funMk (st := s_law_names) l_law_names c_law_names k_law_names), binds_of (kbN (ps := ["_law_pen_here", "_law_many"]) (n := 2) (ks := []) fun us ws h1 h2 => match us, h1, ws, h2 with | [_, _], _, [], _ => rfl) rfl⟩
  have y_fn_law_digits : FnP K mg "_law_digits" s_law_digits ["_law_pen_here", "_law_many"] := ⟨_, _, PySem.W.mg_of X G a_law_digits, (funMk (st := s_law_digits) l_law_digits c_law_digits k_law_digits), binds_of (kbN (ps := ["_law_pen_here", "_law_many"]) (n := 2) (ks := []) fun us ws h1 h2 => match us, h1, ws, h2 with | [_, _], _, [], _ => rfl) rfl⟩
  have y_b_min : mg "min" = none := PySem.W.mg_none_of X G z_min
  have y_fn_law_row : FnP K mg "_law_row" s_law_row ["_law_pen_here", "_law_label", "_law_start", "_law_end"] := ⟨_, _, PySem.W.mg_of X G a_law_row, (funMk (st := s_law_row) l_law_row c_law_row k_law_row), binds_of (kbN (ps := ["_law_pen_here", "_law_label", "_law_start", "_law_end"]) (n := 4) (ks := []) fun us ws h1 h2 => match us, h1, ws, h2 with | [_, _, _, _], _, [], _ => rfl) rfl⟩
  have y_fn_law_chain : FnP K mg "_law_chain" s_law_chain ["_law_pen_here", "_law_size"] := ⟨_, _, PySem.W.mg_of X G a_law_chain, (funMk (st := s_law_chain) l_law_chain c_law_chain k_law_chain), binds_of (kbN (ps := ["_law_pen_here", "_law_size"]) (n := 2) (ks := []) fun us ws h1 h2 => match us, h1, ws, h2 with | [_, _], _, [], _ => rfl) rfl⟩
  have y_gs_ALPHABET : StrP mg "ALPHABET" "abcdefghijklmnopqrstuvwxyz" := ⟨_, PySem.W.mg_of X G gs_ALPHABET⟩
  have y_b_all : mg "all" = none := PySem.W.mg_none_of X G z_all
  have y_gi_LETTERS : IntP mg "LETTERS" 8 := ⟨_, PySem.W.mg_of X G gi_LETTERS⟩
  have y_b_isinstance : mg "isinstance" = none := PySem.W.mg_none_of X G z_isinstance
  have y_b_str : mg "str" = none := PySem.W.mg_none_of X G z_str
  have y_fn_is_name : FnP K mg "is_name" s_is_name ["value"] := ⟨_, _, PySem.W.mg_of X G a_is_name, (funMk (st := s_is_name) l_is_name c_is_name k_is_name), binds_of (kbN (ps := ["value"]) (n := 1) (ks := []) fun us ws h1 h2 => match us, h1, ws, h2 with | [_], _, [], _ => rfl) rfl⟩
  have y_fn_need_name : FnP K mg "need_name" s_need_name ["value"] := ⟨_, _, PySem.W.mg_of X G a_need_name, (funMk (st := s_need_name) l_need_name c_need_name k_need_name), binds_of (kbN (ps := ["value"]) (n := 1) (ks := []) fun us ws h1 h2 => match us, h1, ws, h2 with | [_], _, [], _ => rfl) rfl⟩
  have y_b_tuple : mg "tuple" = none := PySem.W.mg_none_of X G z_tuple
  have y_b_bool : mg "bool" = none := PySem.W.mg_none_of X G z_bool
  have y_fk_is_integer_1_least_most : FnKP K mg "is_integer" s_is_integer ["value", "least", "most"] 1 ["least", "most"] := ⟨_, _, PySem.W.mg_of X G a_is_integer, (funMk (st := s_is_integer) l_is_integer c_is_integer k_is_integer), (kbN (ps := ["value", "least", "most"]) (n := 1) (ks := ["least", "most"]) fun us ws h1 h2 => match us, h1, ws, h2 with | [_], _, [_, _], _ => rfl)⟩
  have y_ca_Office_RATE : CatP K mg "Office" "RATE" 9 := ⟨_, _, _, PySem.W.mg_of X G a_Office, ⟨cr_Office, cq_Office⟩, ⟨cv_Office_RATE, ⟨_, rfl⟩⟩⟩
  have y_fn_is_rate : FnP K mg "is_rate" s_is_rate ["value"] := ⟨_, _, PySem.W.mg_of X G a_is_rate, (funMk (st := s_is_rate) l_is_rate c_is_rate k_is_rate), binds_of (kbN (ps := ["value"]) (n := 1) (ks := []) fun us ws h1 h2 => match us, h1, ws, h2 with | [_], _, [], _ => rfl) rfl⟩
  have y_fk_need_integer_1_least_most : FnKP K mg "need_integer" s_need_integer ["value", "least", "most"] 1 ["least", "most"] := ⟨_, _, PySem.W.mg_of X G a_need_integer, (funMk (st := s_need_integer) l_need_integer c_need_integer k_need_integer), (kbN (ps := ["value", "least", "most"]) (n := 1) (ks := ["least", "most"]) fun us ws h1 h2 => match us, h1, ws, h2 with | [_], _, [_, _], _ => rfl)⟩
  have y_co_FEE : ConOk K "FEE" 20 ["Office", "CappedOffice"] := (conC a_Office ⟨cg_Office, ch_Office, co_Office, cs_Office⟩ ⟨ck_Office_FEE, ⟨_, rfl⟩, rfl, by decide⟩ (conC a_CappedOffice ⟨cg_CappedOffice, ch_CappedOffice, co_CappedOffice, cs_CappedOffice⟩ ⟨ck_CappedOffice_FEE, ⟨_, rfl⟩, rfl, by decide⟩ con0))
  have y_co_LEAST : ConOk K "LEAST" 1000 ["Office", "CappedOffice"] := (conC a_Office ⟨cg_Office, ch_Office, co_Office, cs_Office⟩ ⟨ck_Office_LEAST, ⟨_, rfl⟩, rfl, by decide⟩ (conC a_CappedOffice ⟨cg_CappedOffice, ch_CappedOffice, co_CappedOffice, cs_CappedOffice⟩ ⟨ck_CappedOffice_LEAST, ⟨_, rfl⟩, rfl, by decide⟩ con0))
  have y_fo_name : FldOk K "name" ["Office", "CappedOffice"] := (fldC a_Office ⟨cg_Office, ch_Office, co_Office, cs_Office⟩ na_Office_name (fldC a_CappedOffice ⟨cg_CappedOffice, ch_CappedOffice, co_CappedOffice, cs_CappedOffice⟩ na_CappedOffice_name fld0))
  have y_fo_own_ends : FldOk K "own_ends" ["Office", "CappedOffice"] := (fldC a_Office ⟨cg_Office, ch_Office, co_Office, cs_Office⟩ na_Office_own_ends (fldC a_CappedOffice ⟨cg_CappedOffice, ch_CappedOffice, co_CappedOffice, cs_CappedOffice⟩ na_CappedOffice_own_ends fld0))
  have y_fo_own_rate : FldOk K "own_rate" ["Office", "CappedOffice"] := (fldC a_Office ⟨cg_Office, ch_Office, co_Office, cs_Office⟩ na_Office_own_rate (fldC a_CappedOffice ⟨cg_CappedOffice, ch_CappedOffice, co_CappedOffice, cs_CappedOffice⟩ na_CappedOffice_own_rate fld0))
  have y_fo_own_fee : FldOk K "own_fee" ["Office", "CappedOffice"] := (fldC a_Office ⟨cg_Office, ch_Office, co_Office, cs_Office⟩ na_Office_own_fee (fldC a_CappedOffice ⟨cg_CappedOffice, ch_CappedOffice, co_CappedOffice, cs_CappedOffice⟩ na_CappedOffice_own_fee fld0))
  have y_fo_own_least : FldOk K "own_least" ["Office", "CappedOffice"] := (fldC a_Office ⟨cg_Office, ch_Office, co_Office, cs_Office⟩ na_Office_own_least (fldC a_CappedOffice ⟨cg_CappedOffice, ch_CappedOffice, co_CappedOffice, cs_CappedOffice⟩ na_CappedOffice_own_least fld0))
  have y_mk_Office_4_fee_least : MkP K mg "Office" "Office.__init__" s_Office_init ["self", "name", "source", "goal", "rate", "fee", "least"] 4 ["fee", "least"] := ⟨_, _, _, a_Office, PySem.W.mg_of X G a_Office, ⟨mm_Office, mi_Office, mf_Office_init, mc_Office⟩, (funMk (st := s_Office_init) l_Office_init c_Office_init k_Office_init), (kbN (ps := ["self", "name", "source", "goal", "rate", "fee", "least"]) (n := 5) (ks := ["fee", "least"]) fun us ws h1 h2 => match us, h1, ws, h2 with | [_, _, _, _, _], _, [_, _], _ => rfl)⟩
  have y_su_CappedOffice_CappedOffice_init_5_fee_least : SupP K "CappedOffice" "CappedOffice" "__init__" "Office.__init__" s_Office_init ["self", "name", "source", "goal", "rate", "fee", "least"] 5 ["fee", "least"] := ⟨_, _, _, _, a_CappedOffice, a_CappedOffice, ⟨sr_CappedOffice_CappedOffice, sa_CappedOffice_CappedOffice_init, st_Office_init, fi_Office_init, zo_any⟩, (funMk (st := s_Office_init) l_Office_init c_Office_init k_Office_init), (kbN (ps := ["self", "name", "source", "goal", "rate", "fee", "least"]) (n := 5) (ks := ["fee", "least"]) fun us ws h1 h2 => match us, h1, ws, h2 with | [_, _, _, _, _], _, [_, _], _ => rfl)⟩
  have y_co_MOST : ConOk K "MOST" 1000000 ["CappedOffice"] := (conC a_CappedOffice ⟨cg_CappedOffice, ch_CappedOffice, co_CappedOffice, cs_CappedOffice⟩ ⟨ck_CappedOffice_MOST, ⟨_, rfl⟩, rfl, by decide⟩ con0)
  have y_fo_own_most : FldOk K "own_most" ["CappedOffice"] := (fldC a_CappedOffice ⟨cg_CappedOffice, ch_CappedOffice, co_CappedOffice, cs_CappedOffice⟩ na_CappedOffice_own_most fld0)
  have y_mk_CappedOffice_4_most_fee_least : MkS l.prog K mg "CappedOffice" "CappedOffice.__init__" "CappedOffice" s_CappedOffice_init ["self", "name", "source", "goal", "rate", "most", "fee", "least"] 4 ["most", "fee", "least"] := ⟨_, _, _, _, _, _, a_CappedOffice, PySem.W.mg_of X G a_CappedOffice, ⟨mm_CappedOffice, mi_CappedOffice, mf_CappedOffice_init, mc_CappedOffice⟩, ⟨⟨_, _, _, _, _, _, _, _, _, rfl, l_CappedOffice_init, c_CappedOffice_init⟩, ⟨_, _, _, _, e_CappedOffice_init⟩⟩, ⟨PySem.W.mg_none_of X G z_super, ⟨_, _, _, _, _, l_CappedOffice_init, rfl, rfl⟩, ⟨_, _, _, _, _, _, g_CappedOffice_init, h_CappedOffice_init, i_CappedOffice_init⟩, zt_super, ⟨_, _, _, e_CappedOffice_init⟩, ⟨_, cd_CappedOffice⟩⟩, a_CappedOffice, (kbX (ps := ["self", "name", "source", "goal", "rate", "most", "fee", "least"]) (n := 5) (ks := ["most", "fee", "least"]) fun us ws h1 h2 => match us, h1, ws, h2 with | [_, _, _, _, _], _, [_, _, _], _ => rfl)⟩
  have y_fn_law_made : FnP K mg "_law_made" s_law_made ["_law_row_here"] := ⟨_, _, PySem.W.mg_of X G a_law_made, (funMk (st := s_law_made) l_law_made c_law_made k_law_made), binds_of (kbN (ps := ["_law_row_here"]) (n := 1) (ks := []) fun us ws h1 h2 => match us, h1, ws, h2 with | [_], _, [], _ => rfl) rfl⟩
  have y_is_Office : ∃ D, mg "Office" = some (.ref D) ∧ IsoTab K D [("Office", true), ("CappedOffice", true), ("Route", false)] := ⟨_, PySem.W.mg_of X G a_Office, (isoC a_Office ⟨⟨cg_Office, ch_Office, co_Office, cs_Office⟩, ia_Office, iz_hn, iz_htk, io_Office, kt_Office_Office⟩ kt_Office_Office (isoC a_CappedOffice ⟨⟨cg_CappedOffice, ch_CappedOffice, co_CappedOffice, cs_CappedOffice⟩, ia_CappedOffice, iz_hn, iz_htk, io_CappedOffice, kt_CappedOffice_CappedOffice⟩ kt_CappedOffice_Office (isoC a_Route ⟨⟨cg_Route, ch_Route, co_Route, cs_Route⟩, ia_Route, iz_hn, iz_htk, io_Route, kt_Route_Route⟩ kt_Route_Office (iso0 ⟨kb_Office_NoneType, kb_Office_bool, kb_Office_int, kb_Office_str, kb_Office_tuple, kb_Office_list, kb_Office_dict⟩))))⟩
  have y_b_enumerate : mg "enumerate" = none := PySem.W.mg_none_of X G z_enumerate
  have y_pp_CappedOffice_source : PrpP K "CappedOffice" "source" "Office.source" s_Office_source := ⟨_, _, _, _, a_CappedOffice, ⟨cg_CappedOffice, ch_CappedOffice, co_CappedOffice, cs_CappedOffice⟩, ⟨m_CappedOffice_source, pg_Office_source, pt_Office_source, ⟨_, pr_Office_source⟩⟩, (funMk (st := s_Office_source) l_Office_source c_Office_source k_Office_source), (kbN (ps := ["self"]) (n := 1) (ks := []) fun us ws h1 h2 => match us, h1, ws, h2 with | [_], _, [], _ => rfl)⟩
  have y_pp_Office_source : PrpP K "Office" "source" "Office.source" s_Office_source := ⟨_, _, _, _, a_Office, ⟨cg_Office, ch_Office, co_Office, cs_Office⟩, ⟨m_Office_source, pg_Office_source, pt_Office_source, ⟨_, pr_Office_source⟩⟩, (funMk (st := s_Office_source) l_Office_source c_Office_source k_Office_source), (kbN (ps := ["self"]) (n := 1) (ks := []) fun us ws h1 h2 => match us, h1, ws, h2 with | [_], _, [], _ => rfl)⟩
  have y_pp_CappedOffice_goal : PrpP K "CappedOffice" "goal" "Office.goal" s_Office_goal := ⟨_, _, _, _, a_CappedOffice, ⟨cg_CappedOffice, ch_CappedOffice, co_CappedOffice, cs_CappedOffice⟩, ⟨m_CappedOffice_goal, pg_Office_goal, pt_Office_goal, ⟨_, pr_Office_goal⟩⟩, (funMk (st := s_Office_goal) l_Office_goal c_Office_goal k_Office_goal), (kbN (ps := ["self"]) (n := 1) (ks := []) fun us ws h1 h2 => match us, h1, ws, h2 with | [_], _, [], _ => rfl)⟩
  have y_pp_Office_goal : PrpP K "Office" "goal" "Office.goal" s_Office_goal := ⟨_, _, _, _, a_Office, ⟨cg_Office, ch_Office, co_Office, cs_Office⟩, ⟨m_Office_goal, pg_Office_goal, pt_Office_goal, ⟨_, pr_Office_goal⟩⟩, (funMk (st := s_Office_goal) l_Office_goal c_Office_goal k_Office_goal), (kbN (ps := ["self"]) (n := 1) (ks := []) fun us ws h1 h2 => match us, h1, ws, h2 with | [_], _, [], _ => rfl)⟩
  have y_co_LENGTH : ConOk K "LENGTH" 1000 ["Route"] := (conC a_Route ⟨cg_Route, ch_Route, co_Route, cs_Route⟩ ⟨ck_Route_LENGTH, ⟨_, rfl⟩, rfl, by decide⟩ con0)
  have y_fo_own_start : FldOk K "own_start" ["Route"] := (fldC a_Route ⟨cg_Route, ch_Route, co_Route, cs_Route⟩ na_Route_own_start fld0)
  have y_fo_own_end : FldOk K "own_end" ["Route"] := (fldC a_Route ⟨cg_Route, ch_Route, co_Route, cs_Route⟩ na_Route_own_end fld0)
  have y_fo_own_offices : FldOk K "own_offices" ["Route"] := (fldC a_Route ⟨cg_Route, ch_Route, co_Route, cs_Route⟩ na_Route_own_offices fld0)
  have y_mv_Route : MkVP K mg "Route" "Route.__init__" s_Route_init ["self", "start"] "offices" := ⟨_, _, _, a_Route, PySem.W.mg_of X G a_Route, ⟨mm_Route, mi_Route, mf_Route_init, mc_Route⟩, (funMk (st := s_Route_init) l_Route_init c_Route_init k_Route_init), (starB2 (fun _ _ => rfl) (fun _ _ _ _ => rfl))⟩
  have y_bo_Route_add : BopP K "Route" "add" "__add__" "Route.__add__" s_Route_add ["self", "other"] := ⟨_, _, _, a_Route, ⟨⟨cg_Route, ch_Route, co_Route, cs_Route⟩, ia_Route, iz_hn, iz_htk, io_Route, kt_Route_Route⟩, ⟨sf_Route, bm_Route_add, mf_Route_add⟩, (funMk (st := s_Route_add) l_Route_add c_Route_add k_Route_add), (kbN (ps := ["self", "other"]) (n := 2) (ks := []) fun us ws h1 h2 => match us, h1, ws, h2 with | [_, _], _, [], _ => rfl)⟩
  have y_ot_Route_CappedOffice_add : OthP K "Route" "CappedOffice" "add" := ⟨_, _, a_Route, a_CappedOffice, ⟨⟨cg_CappedOffice, ch_CappedOffice, co_CappedOffice, cs_CappedOffice⟩, ia_CappedOffice, iz_hn, iz_htk, io_CappedOffice, kt_CappedOffice_CappedOffice⟩, h_eq_Route_CappedOffice, noFill2 cd_CappedOffice h_mro_CappedOffice (nfC nl_add_CappedOffice nr2_add_CappedOffice (nfC nl_add_Office nr2_add_Office (nfC nl_add_object nr2_add_object nf0)))⟩
  have y_ot_Route_Office_add : OthP K "Route" "Office" "add" := ⟨_, _, a_Route, a_Office, ⟨⟨cg_Office, ch_Office, co_Office, cs_Office⟩, ia_Office, iz_hn, iz_htk, io_Office, kt_Office_Office⟩, h_eq_Route_Office, noFill2 cd_Office h_mro_Office (nfC nl_add_Office nr2_add_Office (nfC nl_add_object nr2_add_object nf0))⟩
  have y_bb_Route_add : BopB K "Route" "add" [] := ⟨_, a_Route, bf0⟩
  have y_fn_law_route : FnP K mg "_law_route" s_law_route ["_law_start", "_law_rows"] := ⟨_, _, PySem.W.mg_of X G a_law_route, (funMk (st := s_law_route) l_law_route c_law_route k_law_route), binds_of (kbN (ps := ["_law_start", "_law_rows"]) (n := 2) (ks := []) fun us ws h1 h2 => match us, h1, ws, h2 with | [_, _], _, [], _ => rfl) rfl⟩
  have y_b_max : mg "max" = none := PySem.W.mg_none_of X G z_max
  have y_fn_law_amount : FnP K mg "_law_amount" s_law_amount ["_law_pen_here", "_law_row_here"] := ⟨_, _, PySem.W.mg_of X G a_law_amount, (funMk (st := s_law_amount) l_law_amount c_law_amount k_law_amount), binds_of (kbN (ps := ["_law_pen_here", "_law_row_here"]) (n := 2) (ks := []) fun us ws h1 h2 => match us, h1, ws, h2 with | [_, _], _, [], _ => rfl) rfl⟩
  have y_fn_law_route_amount : FnP K mg "_law_route_amount" s_law_route_amount ["_law_pen_here", "_law_rows"] := ⟨_, _, PySem.W.mg_of X G a_law_route_amount, (funMk (st := s_law_route_amount) l_law_route_amount c_law_route_amount k_law_route_amount), binds_of (kbN (ps := ["_law_pen_here", "_law_rows"]) (n := 2) (ks := []) fun us ws h1 h2 => match us, h1, ws, h2 with | [_, _], _, [], _ => rfl) rfl⟩
  have y_fn_law_is_plain : FnP K mg "_law_is_plain" s_law_is_plain ["_law_rows", "_law_amount_here"] := ⟨_, _, PySem.W.mg_of X G a_law_is_plain, (funMk (st := s_law_is_plain) l_law_is_plain c_law_is_plain k_law_is_plain), binds_of (kbN (ps := ["_law_rows", "_law_amount_here"]) (n := 2) (ks := []) fun us ws h1 h2 => match us, h1, ws, h2 with | [_, _], _, [], _ => rfl) rfl⟩
  have y_gi_COINS : IntP mg "COINS" 1000000000000000000000000000000 := ⟨_, PySem.W.mg_of X G gi_COINS⟩
  have y_fn_need_amount : FnP K mg "need_amount" s_need_amount ["value"] := ⟨_, _, PySem.W.mg_of X G a_need_amount, (funMk (st := s_need_amount) l_need_amount c_need_amount k_need_amount), binds_of (kbN (ps := ["value"]) (n := 1) (ks := []) fun us ws h1 h2 => match us, h1, ws, h2 with | [_], _, [], _ => rfl) rfl⟩
  have y_su_CappedOffice_CappedOffice_result_2 : SupP K "CappedOffice" "CappedOffice" "result" "Office.result" s_Office_result ["self", "coins"] 2 [] := ⟨_, _, _, _, a_CappedOffice, a_CappedOffice, ⟨sr_CappedOffice_CappedOffice, sa_CappedOffice_CappedOffice_result, st_Office_result, fi_Office_result, zo_any⟩, (funMk (st := s_Office_result) l_Office_result c_Office_result k_Office_result), (kbN (ps := ["self", "coins"]) (n := 2) (ks := []) fun us ws h1 h2 => match us, h1, ws, h2 with | [_, _], _, [], _ => rfl)⟩
  have y_me_CappedOffice_result_2 : MthS l.prog K mg "CappedOffice" "result" "CappedOffice.result" "CappedOffice" s_CappedOffice_result ["self", "coins"] 2 [] := ⟨_, _, _, _, _, _, a_CappedOffice, ⟨cg_CappedOffice, ch_CappedOffice, co_CappedOffice, cs_CappedOffice⟩, ⟨m_CappedOffice_result, mf_CappedOffice_result, k_CappedOffice_result⟩, ⟨⟨_, _, _, _, _, _, _, _, _, rfl, l_CappedOffice_result, c_CappedOffice_result⟩, ⟨_, _, _, _, e_CappedOffice_result⟩⟩, ⟨PySem.W.mg_none_of X G z_super, ⟨_, _, _, _, _, l_CappedOffice_result, rfl, rfl⟩, ⟨_, _, _, _, _, _, g_CappedOffice_result, h_CappedOffice_result, i_CappedOffice_result⟩, zt_super, ⟨_, _, _, e_CappedOffice_result⟩, ⟨_, cd_CappedOffice⟩⟩, a_CappedOffice, (kbX (ps := ["self", "coins"]) (n := 2) (ks := []) fun us ws h1 h2 => match us, h1, ws, h2 with | [_, _], _, [], _ => rfl)⟩
  have y_me_Office_result_2 : MthP K "Office" "result" "Office.result" s_Office_result ["self", "coins"] 2 [] := ⟨_, _, _, a_Office, ⟨cg_Office, ch_Office, co_Office, cs_Office⟩, ⟨m_Office_result, mf_Office_result, k_Office_result⟩, (funMk (st := s_Office_result) l_Office_result c_Office_result k_Office_result), (kbN (ps := ["self", "coins"]) (n := 2) (ks := []) fun us ws h1 h2 => match us, h1, ws, h2 with | [_, _], _, [], _ => rfl)⟩
  have y_me_Route_result_2 : MthP K "Route" "result" "Route.result" s_Route_result ["self", "coins"] 2 [] := ⟨_, _, _, a_Route, ⟨cg_Route, ch_Route, co_Route, cs_Route⟩, ⟨m_Route_result, mf_Route_result, k_Route_result⟩, (funMk (st := s_Route_result) l_Route_result c_Route_result k_Route_result), (kbN (ps := ["self", "coins"]) (n := 2) (ks := []) fun us ws h1 h2 => match us, h1, ws, h2 with | [_, _], _, [], _ => rfl)⟩
  have y_ex_Closed : ExcP K mg "Closed" "Closed.__init__" "name" "name" s_Closed_init "RuntimeError" "RuntimeError.__new__" "RuntimeError.__init__" [.type "RuntimeError", .type "Exception", .type "BaseException", .type "object"] := ⟨_, _, _, a_Closed, PySem.W.mg_of X G a_Closed, ⟨PySem.F.excBase_RuntimeError, ⟨_, _, _, _, _, _, _, _, _, _, _, _, _, _, xc_Closed⟩, fun _ => rfl, by decide +kernel, xs_Closed, xE_Closed, xt_Closed, xK_Closed⟩, xi_Closed, st_Closed_init, xo__Closed, (funMk (st := s_Closed_init) l_Closed_init c_Closed_init k_Closed_init), binds_of (kbN (ps := ["self", "name"]) (n := 2) (ks := []) fun us ws h1 h2 => match us, h1, ws, h2 with | [_, _], _, [], _ => rfl) rfl, xv_RuntimeError⟩
  have y_b_RuntimeError : mg "RuntimeError" = none := PySem.W.mg_none_of X G z_RuntimeError
  have y_nostop : Gn.NoStops K ["Closed"] := (Gn.nsC a_Closed ns_Closed Gn.ns0)
  have y_me_Route_holdings_2 : MthP K "Route" "holdings" "Route.holdings" s_Route_holdings ["self", "amount"] 2 [] := ⟨_, _, _, a_Route, ⟨cg_Route, ch_Route, co_Route, cs_Route⟩, ⟨m_Route_holdings, mf_Route_holdings, k_Route_holdings⟩, (funMk (st := s_Route_holdings) l_Route_holdings c_Route_holdings k_Route_holdings), (kbN (ps := ["self", "amount"]) (n := 2) (ks := []) fun us ws h1 h2 => match us, h1, ws, h2 with | [_, _], _, [], _ => rfl)⟩
  have y_in_Route_2 : InsP K "Route" "Route.__call__" s_Route_call ["self", "amount"] 2 := ⟨_, _, _, a_Route, ⟨m_Route_call, mf_Route_call, fi_Route_call⟩, (funMk (st := s_Route_call) l_Route_call c_Route_call k_Route_call), (kbN (ps := ["self", "amount"]) (n := 2) (ks := []) fun us ws h1 h2 => match us, h1, ws, h2 with | [_, _], _, [], _ => rfl)⟩
  have y_in_CappedOffice_2 : InsP K "CappedOffice" "Office.__call__" s_Office_call ["self", "amount"] 2 := ⟨_, _, _, a_CappedOffice, ⟨m_CappedOffice_call, mf_Office_call, fi_Office_call⟩, (funMk (st := s_Office_call) l_Office_call c_Office_call k_Office_call), (kbN (ps := ["self", "amount"]) (n := 2) (ks := []) fun us ws h1 h2 => match us, h1, ws, h2 with | [_, _], _, [], _ => rfl)⟩
  have y_in_Office_2 : InsP K "Office" "Office.__call__" s_Office_call ["self", "amount"] 2 := ⟨_, _, _, a_Office, ⟨m_Office_call, mf_Office_call, fi_Office_call⟩, (funMk (st := s_Office_call) l_Office_call c_Office_call k_Office_call), (kbN (ps := ["self", "amount"]) (n := 2) (ks := []) fun us ws h1 h2 => match us, h1, ws, h2 with | [_, _], _, [], _ => rfl)⟩
  have Z : Zt l.prog K mg := ⟨y_b_list, y_fn_law_pen, y_b_range, y_b_int, y_b_len, y_b_abs, y_fn_law_draw, y_fn_law_pick, y_fn_law_names, y_fn_law_digits, y_b_min, y_fn_law_row, y_fn_law_chain, y_gs_ALPHABET, y_b_all, y_gi_LETTERS, y_b_isinstance, y_b_str, y_fn_is_name, y_fn_need_name, y_b_tuple, y_b_bool, y_fk_is_integer_1_least_most, y_ca_Office_RATE, y_fn_is_rate, y_fk_need_integer_1_least_most, y_co_FEE, y_co_LEAST, y_fo_name, y_fo_own_ends, y_fo_own_rate, y_fo_own_fee, y_fo_own_least, y_mk_Office_4_fee_least, y_su_CappedOffice_CappedOffice_init_5_fee_least, y_co_MOST, y_fo_own_most, y_mk_CappedOffice_4_most_fee_least, y_fn_law_made, y_is_Office, y_b_enumerate, y_pp_CappedOffice_source, y_pp_Office_source, y_pp_CappedOffice_goal, y_pp_Office_goal, y_co_LENGTH, y_fo_own_start, y_fo_own_end, y_fo_own_offices, y_mv_Route, y_bo_Route_add, y_ot_Route_CappedOffice_add, y_ot_Route_Office_add, y_bb_Route_add, y_fn_law_route, y_b_max, y_fn_law_amount, y_fn_law_route_amount, y_fn_law_is_plain, y_gi_COINS, y_fn_need_amount, y_su_CappedOffice_CappedOffice_result_2, y_me_CappedOffice_result_2, y_me_Office_result_2, y_me_Route_result_2, y_ex_Closed, y_b_RuntimeError, y_nostop, y_me_Route_holdings_2, y_in_Route_2, y_in_CappedOffice_2, y_in_Office_2⟩
  exact ⟨_, fun s v => .of_eq rfl, fun base _ _ => pr_law Z _ _ (funMk (st := s_law) l_law c_law k_law)⟩
theorem facts {w : World} {K : PySem.W.Frag} {h : Heap} {mg : Str → Option Value} {fa : Addr} (X : K.In h) (G : h.Ns mainGlobals mg) (hfa : mg "law" = some (.ref fa)) (c : Hs.Says ex fns K) :
    ∃ fd : FuncData, (∀ (s : Shared) (v : Value), BindsTo s fd ⟨[v], []⟩ [("_law_script", v)]) ∧ ∀ base : Heap, K.In base → base.Ns mainGlobals mg → FnG PySem.Challenge.rw_rounddown_k14_whole_results_repeat.prog w K mg base (L2.CX PySem.Challenge.rw_rounddown_k14_whole_results_repeat.prog w) 8 fa fd ["_law_script"] (spM K 1 m_law) := by
  obtain ⟨_, _, _, _, _, _, _, _, _, l_law, c_law⟩ := Hs.Df.get (c.def_ 0).1 (c.def_ 0).2 rfl rfl
  obtain ⟨_, _, _, _, _, _, _, _, _, l_law_pen, c_law_pen⟩ := Hs.Df.get (c.def_ 1).1 (c.def_ 1).2 rfl rfl
  obtain ⟨_, _, _, _, _, _, _, _, _, l_law_chain, c_law_chain⟩ := Hs.Df.get (c.def_ 2).1 (c.def_ 2).2 rfl rfl
  obtain ⟨_, _, _, _, _, _, _, _, _, l_law_names, c_law_names⟩ := Hs.Df.get (c.def_ 3).1 (c.def_ 3).2 rfl rfl
  obtain ⟨_, _, _, _, _, _, _, _, _, l_law_draw, c_law_draw⟩ := Hs.Df.get (c.def_ 4).1 (c.def_ 4).2 rfl rfl
  obtain ⟨_, _, _, _, _, _, _, _, _, l_law_pick, c_law_pick⟩ := Hs.Df.get (c.def_ 5).1 (c.def_ 5).2 rfl rfl
  obtain ⟨_, _, _, _, _, _, _, _, _, l_law_row, c_law_row⟩ := Hs.Df.get (c.def_ 6).1 (c.def_ 6).2 rfl rfl
  obtain ⟨_, _, _, _, _, _, _, _, _, l_law_digits, c_law_digits⟩ := Hs.Df.get (c.def_ 7).1 (c.def_ 7).2 rfl rfl
  obtain ⟨_, _, _, _, _, _, _, _, _, l_law_route, c_law_route⟩ := Hs.Df.get (c.def_ 8).1 (c.def_ 8).2 rfl rfl
  obtain ⟨_, _, _, _, _, _, _, _, _, l_law_made, c_law_made⟩ := Hs.Df.get (c.def_ 9).1 (c.def_ 9).2 rfl rfl
  obtain ⟨_, _, _, _, _, _, _, _, _, l_Office_init, c_Office_init⟩ := Hs.Df.get (c.def_ 10).1 (c.def_ 10).2 rfl rfl
  obtain ⟨_, _, _, _, _, _, _, _, _, l_need_name, c_need_name⟩ := Hs.Df.get (c.def_ 11).1 (c.def_ 11).2 rfl rfl
  obtain ⟨_, _, _, _, _, _, _, _, _, l_is_name, c_is_name⟩ := Hs.Df.get (c.def_ 12).1 (c.def_ 12).2 rfl rfl
  obtain ⟨_, _, _, _, _, _, _, _, _, l_is_rate, c_is_rate⟩ := Hs.Df.get (c.def_ 13).1 (c.def_ 13).2 rfl rfl
  obtain ⟨_, _, _, _, _, _, _, _, _, l_is_integer, c_is_integer⟩ := Hs.Df.get (c.def_ 14).1 (c.def_ 14).2 rfl rfl
  obtain ⟨_, _, _, _, _, _, _, _, _, l_need_integer, c_need_integer⟩ := Hs.Df.get (c.def_ 15).1 (c.def_ 15).2 rfl rfl
  obtain ⟨_, _, _, _, _, _, _, cda_CappedOffice_init, _, l_CappedOffice_init, c_CappedOffice_init⟩ := Hs.Df.getX (c.def_ 16).1 (c.def_ 16).2 rfl rfl
  obtain ⟨_, _, _, e_CappedOffice_init⟩ := Hs.cellB_ok (c.fact 0)
  obtain ⟨_, _, _, _, _, _, g_CappedOffice_init, h_CappedOffice_init, i_CappedOffice_init⟩ := Hs.fileB_ok l_CappedOffice_init rfl (c.fact 1)
  obtain ⟨_, _, _, _, _, _, _, _, _, l_Route_init, c_Route_init⟩ := Hs.Df.get (c.def_ 17).1 (c.def_ 17).2 rfl rfl
  obtain ⟨_, _, _, _, _, _, _, _, _, l_Office_source, c_Office_source⟩ := Hs.Df.get (c.def_ 18).1 (c.def_ 18).2 rfl rfl
  obtain ⟨_, _, _, _, _, _, _, _, _, l_Office_goal, c_Office_goal⟩ := Hs.Df.get (c.def_ 19).1 (c.def_ 19).2 rfl rfl
  obtain ⟨_, _, _, _, _, _, _, _, _, l_Route_add, c_Route_add⟩ := Hs.Df.get (c.def_ 20).1 (c.def_ 20).2 rfl rfl
  obtain ⟨_, _, _, _, _, _, _, _, _, l_law_route_amount, c_law_route_amount⟩ := Hs.Df.get (c.def_ 21).1 (c.def_ 21).2 rfl rfl
  obtain ⟨_, _, _, _, _, _, _, _, _, l_law_amount, c_law_amount⟩ := Hs.Df.get (c.def_ 22).1 (c.def_ 22).2 rfl rfl
  obtain ⟨_, _, _, _, _, _, _, _, _, l_law_is_plain, c_law_is_plain⟩ := Hs.Df.get (c.def_ 23).1 (c.def_ 23).2 rfl rfl
  obtain ⟨_, _, _, _, _, _, _, _, _, l_Office_call, c_Office_call⟩ := Hs.Df.get (c.def_ 24).1 (c.def_ 24).2 rfl rfl
  obtain ⟨_, _, _, _, _, _, _, _, _, l_need_amount, c_need_amount⟩ := Hs.Df.get (c.def_ 25).1 (c.def_ 25).2 rfl rfl
  obtain ⟨_, _, _, _, _, _, _, _, _, l_Office_result, c_Office_result⟩ := Hs.Df.get (c.def_ 26).1 (c.def_ 26).2 rfl rfl
  obtain ⟨_, _, _, _, _, _, _, cda_CappedOffice_result, _, l_CappedOffice_result, c_CappedOffice_result⟩ := Hs.Df.getX (c.def_ 27).1 (c.def_ 27).2 rfl rfl
  obtain ⟨_, _, _, e_CappedOffice_result⟩ := Hs.cellB_ok (c.fact 2)
  obtain ⟨_, _, _, _, _, _, g_CappedOffice_result, h_CappedOffice_result, i_CappedOffice_result⟩ := Hs.fileB_ok l_CappedOffice_result rfl (c.fact 3)
  obtain ⟨_, _, _, _, _, _, _, _, _, l_Route_result, c_Route_result⟩ := Hs.Df.get (c.def_ 28).1 (c.def_ 28).2 rfl rfl
  obtain ⟨_, _, _, _, _, _, _, _, _, l_Closed_init, c_Closed_init⟩ := Hs.Df.get (c.def_ 29).1 (c.def_ 29).2 rfl rfl
  obtain ⟨_, _, _, _, _, _, _, _, _, l_Route_call, c_Route_call⟩ := Hs.Df.get (c.def_ 30).1 (c.def_ 30).2 rfl rfl
  obtain ⟨_, _, _, _, _, _, _, _, _, l_Route_holdings, c_Route_holdings⟩ := Hs.Df.get (c.def_ 31).1 (c.def_ 31).2 rfl rfl
  obtain ⟨_, pr_Office_source⟩ := Hs.pf_ok (c.fact 43)
  obtain ⟨_, pr_Office_goal⟩ := Hs.pf_ok (c.fact 44)
  obtain ⟨_, _, _, _, _, _, _, _, _, _, _, _, _, _, xc_Closed⟩ := Hs.excB_ok (c.fact 45)
  obtain ⟨_, gs_ALPHABET⟩ := Hs.strO_ok (c.fact 59)
  obtain ⟨_, gi_LETTERS⟩ := Hs.intO_ok (c.fact 61)
  obtain ⟨_, cv_Office_RATE⟩ := Hs.catO_ok (c.fact 71)
  obtain ⟨_, ck_CappedOffice_FEE⟩ := Hs.intO_ok (c.fact 78)
  obtain ⟨_, ck_Office_FEE⟩ := Hs.intO_ok (c.fact 83)
  obtain ⟨_, ck_CappedOffice_LEAST⟩ := Hs.intO_ok (c.fact 84)
  obtain ⟨_, ck_Office_LEAST⟩ := Hs.intO_ok (c.fact 85)
  obtain ⟨_, ck_CappedOffice_MOST⟩ := Hs.intO_ok (c.fact 105)
  obtain ⟨_, cd_CappedOffice, h_mro_CappedOffice⟩ := Hs.mroB_ok (c.fact 107)
  have zt_super : (PySem.Challenge.pw_rounddown_k14_whole_results_repeat.main.scope.names.lookup ("super" : Str)).isSome = false := rfl
  obtain ⟨_, ck_Route_LENGTH⟩ := Hs.intO_ok (c.fact 144)
  obtain ⟨_, cd_Office, h_mro_Office⟩ := Hs.mroB_ok (c.fact 163)
  obtain ⟨_, gi_COINS⟩ := Hs.intO_ok (c.fact 169)
  have xv_RuntimeError := Hs.cvalO_ok (c.fact 187)
  exact all_mk (l := PySem.Challenge.rw_rounddown_k14_whole_results_repeat) (w := w) X G hfa (a_law_pen := (of_decide_eq_true (c.fact 4))) (a_law_draw := (of_decide_eq_true (c.fact 5))) (a_law_pick := (of_decide_eq_true (c.fact 6))) (a_law_names := (of_decide_eq_true (c.fact 7))) (a_law_digits := (of_decide_eq_true (c.fact 8))) (a_law_row := (of_decide_eq_true (c.fact 9))) (a_law_chain := (of_decide_eq_true (c.fact 10))) (a_is_name := (of_decide_eq_true (c.fact 11))) (a_need_name := (of_decide_eq_true (c.fact 12))) (a_is_integer := (of_decide_eq_true (c.fact 13))) (a_Office := (of_decide_eq_true (c.fact 14))) (a_is_rate := (of_decide_eq_true (c.fact 15))) (a_need_integer := (of_decide_eq_true (c.fact 16))) (a_CappedOffice := (of_decide_eq_true (c.fact 17))) (a_law_made := (of_decide_eq_true (c.fact 18))) (a_Route := (of_decide_eq_true (c.fact 19))) (a_law_route := (of_decide_eq_true (c.fact 20))) (a_law_amount := (of_decide_eq_true (c.fact 21))) (a_law_route_amount := (of_decide_eq_true (c.fact 22))) (a_law_is_plain := (of_decide_eq_true (c.fact 23))) (a_need_amount := (of_decide_eq_true (c.fact 24))) (a_Closed := (of_decide_eq_true (c.fact 25))) (a_law := (of_decide_eq_true (c.fact 26))) (mi_Office := (of_decide_eq_true (c.fact 27))) (mi_CappedOffice := (of_decide_eq_true (c.fact 28))) (m_CappedOffice_source := (of_decide_eq_true (c.fact 29))) (m_Office_source := (of_decide_eq_true (c.fact 30))) (m_CappedOffice_goal := (of_decide_eq_true (c.fact 31))) (m_Office_goal := (of_decide_eq_true (c.fact 32))) (mi_Route := (of_decide_eq_true (c.fact 33))) (bm_Route_add := (of_decide_eq_true (c.fact 34))) (m_CappedOffice_result := (of_decide_eq_true (c.fact 35))) (m_Office_result := (of_decide_eq_true (c.fact 36))) (m_Route_result := (of_decide_eq_true (c.fact 37))) (xi_Closed := (of_decide_eq_true (c.fact 38))) (m_Route_holdings := (of_decide_eq_true (c.fact 39))) (m_Route_call := (of_decide_eq_true (c.fact 40))) (m_CappedOffice_call := (of_decide_eq_true (c.fact 41))) (m_Office_call := (of_decide_eq_true (c.fact 42))) (pr_Office_source := pr_Office_source) (pr_Office_goal := pr_Office_goal) (l_law_pen := l_law_pen) (l_law_draw := l_law_draw) (l_law_pick := l_law_pick) (l_law_names := l_law_names) (l_law_digits := l_law_digits) (l_law_row := l_law_row) (l_law_chain := l_law_chain) (l_is_name := l_is_name) (l_need_name := l_need_name) (l_is_integer := l_is_integer) (l_is_rate := l_is_rate) (l_need_integer := l_need_integer) (l_Office_init := l_Office_init) (l_CappedOffice_init := l_CappedOffice_init) (l_law_made := l_law_made) (l_Office_source := l_Office_source) (l_Office_goal := l_Office_goal) (l_Route_init := l_Route_init) (l_Route_add := l_Route_add) (l_law_route := l_law_route) (l_law_amount := l_law_amount) (l_law_route_amount := l_law_route_amount) (l_law_is_plain := l_law_is_plain) (l_need_amount := l_need_amount) (l_Office_result := l_Office_result) (l_CappedOffice_result := l_CappedOffice_result) (l_Route_result := l_Route_result) (l_Closed_init := l_Closed_init) (xc_Closed := xc_Closed) (l_Route_holdings := l_Route_holdings) (l_Route_call := l_Route_call) (l_Office_call := l_Office_call) (l_law := l_law) (e_CappedOffice_init := e_CappedOffice_init) (g_CappedOffice_init := g_CappedOffice_init) (e_CappedOffice_result := e_CappedOffice_result) (g_CappedOffice_result := g_CappedOffice_result) (z_list := (of_decide_eq_true (c.fact 46))) (c_law_pen := c_law_pen) (k_law_pen := (c.fact 47)) (z_range := (of_decide_eq_true (c.fact 48))) (z_int := (of_decide_eq_true (c.fact 49))) (z_len := (of_decide_eq_true (c.fact 50))) (z_abs := (of_decide_eq_true (c.fact 51))) (c_law_draw := c_law_draw) (k_law_draw := (c.fact 52)) (c_law_pick := c_law_pick) (k_law_pick := (c.fact 53)) (c_law_names := c_law_names) (k_law_names := (c.fact 54)) (c_law_digits := c_law_digits) (k_law_digits := (c.fact 55)) (z_min := (of_decide_eq_true (c.fact 56))) (c_law_row := c_law_row) (k_law_row := (c.fact 57)) (c_law_chain := c_law_chain) (k_law_chain := (c.fact 58)) (gs_ALPHABET := gs_ALPHABET) (z_all := (of_decide_eq_true (c.fact 60))) (gi_LETTERS := gi_LETTERS) (z_isinstance := (of_decide_eq_true (c.fact 62))) (z_str := (of_decide_eq_true (c.fact 63))) (c_is_name := c_is_name) (k_is_name := (c.fact 64)) (c_need_name := c_need_name) (k_need_name := (c.fact 65)) (z_tuple := (of_decide_eq_true (c.fact 66))) (z_bool := (of_decide_eq_true (c.fact 67))) (c_is_integer := c_is_integer) (k_is_integer := (c.fact 68)) (cr_Office := (c.fact 69)) (cq_Office := (of_decide_eq_true (c.fact 70))) (cv_Office_RATE := cv_Office_RATE) (c_is_rate := c_is_rate) (k_is_rate := (c.fact 72)) (c_need_integer := c_need_integer) (k_need_integer := (c.fact 73)) (cg_CappedOffice := (c.fact 74)) (ch_CappedOffice := (c.fact 75)) (co_CappedOffice := (c.fact 76)) (cs_CappedOffice := (of_decide_eq_true (c.fact 77))) (ck_CappedOffice_FEE := ck_CappedOffice_FEE) (cg_Office := (c.fact 79)) (ch_Office := (c.fact 80)) (co_Office := (c.fact 81)) (cs_Office := (of_decide_eq_true (c.fact 82))) (ck_Office_FEE := ck_Office_FEE) (ck_CappedOffice_LEAST := ck_CappedOffice_LEAST) (ck_Office_LEAST := ck_Office_LEAST) (na_CappedOffice_name := (of_decide_eq_true (c.fact 86))) (na_Office_name := (of_decide_eq_true (c.fact 87))) (na_CappedOffice_own_ends := (of_decide_eq_true (c.fact 88))) (na_Office_own_ends := (of_decide_eq_true (c.fact 89))) (na_CappedOffice_own_rate := (of_decide_eq_true (c.fact 90))) (na_Office_own_rate := (of_decide_eq_true (c.fact 91))) (na_CappedOffice_own_fee := (of_decide_eq_true (c.fact 92))) (na_Office_own_fee := (of_decide_eq_true (c.fact 93))) (na_CappedOffice_own_least := (of_decide_eq_true (c.fact 94))) (na_Office_own_least := (of_decide_eq_true (c.fact 95))) (c_Office_init := c_Office_init) (k_Office_init := (c.fact 96)) (mm_Office := (c.fact 97)) (mf_Office_init := (c.fact 98)) (mc_Office := (c.fact 99)) (sr_CappedOffice_CappedOffice := (of_decide_eq_true (c.fact 100))) (sa_CappedOffice_CappedOffice_init := (of_decide_eq_true (c.fact 101))) (st_Office_init := (of_decide_eq_true (c.fact 102))) (fi_Office_init := (c.fact 103)) (zo_any := (of_decide_eq_true (c.fact 104))) (ck_CappedOffice_MOST := ck_CappedOffice_MOST) (na_CappedOffice_own_most := (of_decide_eq_true (c.fact 106))) (c_CappedOffice_init := c_CappedOffice_init) (h_CappedOffice_init := h_CappedOffice_init) (i_CappedOffice_init := i_CappedOffice_init) (cd_CappedOffice := cd_CappedOffice) (z_super := (of_decide_eq_true (c.fact 108))) (zt_super := zt_super) (mm_CappedOffice := (c.fact 109)) (mf_CappedOffice_init := (c.fact 110)) (mc_CappedOffice := (c.fact 111)) (c_law_made := c_law_made) (k_law_made := (c.fact 112)) (kb_Office_NoneType := (of_decide_eq_true (c.fact 113))) (kb_Office_bool := (of_decide_eq_true (c.fact 114))) (kb_Office_int := (of_decide_eq_true (c.fact 115))) (kb_Office_str := (of_decide_eq_true (c.fact 116))) (kb_Office_tuple := (of_decide_eq_true (c.fact 117))) (kb_Office_list := (of_decide_eq_true (c.fact 118))) (kb_Office_dict := (of_decide_eq_true (c.fact 119))) (cg_Route := (c.fact 120)) (ch_Route := (c.fact 121)) (co_Route := (c.fact 122)) (cs_Route := (of_decide_eq_true (c.fact 123))) (ia_Route := (of_decide_eq_true (c.fact 124))) (iz_hn := (of_decide_eq_true (c.fact 125))) (iz_htk := (of_decide_eq_true (c.fact 126))) (io_Route := (of_decide_eq_true (c.fact 127))) (kt_Route_Route := (of_decide_eq_true (c.fact 128))) (kt_Route_Office := (of_decide_eq_true (c.fact 129))) (ia_CappedOffice := (of_decide_eq_true (c.fact 130))) (io_CappedOffice := (of_decide_eq_true (c.fact 131))) (kt_CappedOffice_CappedOffice := (of_decide_eq_true (c.fact 132))) (kt_CappedOffice_Office := (of_decide_eq_true (c.fact 133))) (ia_Office := (of_decide_eq_true (c.fact 134))) (io_Office := (of_decide_eq_true (c.fact 135))) (kt_Office_Office := (of_decide_eq_true (c.fact 136))) (z_enumerate := (of_decide_eq_true (c.fact 137))) (pg_Office_source := (of_decide_eq_true (c.fact 138))) (pt_Office_source := (of_decide_eq_true (c.fact 139))) (c_Office_source := c_Office_source) (k_Office_source := (c.fact 140)) (pg_Office_goal := (of_decide_eq_true (c.fact 141))) (pt_Office_goal := (of_decide_eq_true (c.fact 142))) (c_Office_goal := c_Office_goal) (k_Office_goal := (c.fact 143)) (ck_Route_LENGTH := ck_Route_LENGTH) (na_Route_own_start := (of_decide_eq_true (c.fact 145))) (na_Route_own_end := (of_decide_eq_true (c.fact 146))) (na_Route_own_offices := (of_decide_eq_true (c.fact 147))) (c_Route_init := c_Route_init) (k_Route_init := (c.fact 148)) (mm_Route := (c.fact 149)) (mf_Route_init := (c.fact 150)) (mc_Route := (c.fact 151)) (c_Route_add := c_Route_add) (k_Route_add := (c.fact 152)) (sf_Route := (c.fact 153)) (mf_Route_add := (c.fact 154)) (h_eq_Route_CappedOffice := (of_decide_eq_true (c.fact 155))) (h_mro_CappedOffice := h_mro_CappedOffice) (nl_add_object := (of_decide_eq_true (c.fact 156))) (nr2_add_object := (of_decide_eq_true (c.fact 157))) (nl_add_Office := (of_decide_eq_true (c.fact 158))) (nr2_add_Office := (of_decide_eq_true (c.fact 159))) (nl_add_CappedOffice := (of_decide_eq_true (c.fact 160))) (nr2_add_CappedOffice := (of_decide_eq_true (c.fact 161))) (h_eq_Route_Office := (of_decide_eq_true (c.fact 162))) (cd_Office := cd_Office) (h_mro_Office := h_mro_Office) (c_law_route := c_law_route) (k_law_route := (c.fact 164)) (z_max := (of_decide_eq_true (c.fact 165))) (c_law_amount := c_law_amount) (k_law_amount := (c.fact 166)) (c_law_route_amount := c_law_route_amount) (k_law_route_amount := (c.fact 167)) (c_law_is_plain := c_law_is_plain) (k_law_is_plain := (c.fact 168)) (gi_COINS := gi_COINS) (c_need_amount := c_need_amount) (k_need_amount := (c.fact 170)) (sa_CappedOffice_CappedOffice_result := (of_decide_eq_true (c.fact 171))) (st_Office_result := (of_decide_eq_true (c.fact 172))) (fi_Office_result := (c.fact 173)) (c_Office_result := c_Office_result) (k_Office_result := (c.fact 174)) (mf_CappedOffice_result := (c.fact 175)) (k_CappedOffice_result := (c.fact 176)) (c_CappedOffice_result := c_CappedOffice_result) (h_CappedOffice_result := h_CappedOffice_result) (i_CappedOffice_result := i_CappedOffice_result) (mf_Office_result := (c.fact 177)) (mf_Route_result := (c.fact 178)) (k_Route_result := (c.fact 179)) (c_Route_result := c_Route_result) (c_Closed_init := c_Closed_init) (k_Closed_init := (c.fact 180)) (xs_Closed := (of_decide_eq_true (c.fact 181))) (xE_Closed := (of_decide_eq_true (c.fact 182))) (xt_Closed := (of_decide_eq_true (c.fact 183))) (xK_Closed := (c.fact 184)) (st_Closed_init := (of_decide_eq_true (c.fact 185))) (xo__Closed := (of_decide_eq_true (c.fact 186))) (xv_RuntimeError := xv_RuntimeError) (z_RuntimeError := (of_decide_eq_true (c.fact 188))) (ns_Closed := (of_decide_eq_true (c.fact 189))) (mf_Route_holdings := (c.fact 190)) (k_Route_holdings := (c.fact 191)) (c_Route_holdings := c_Route_holdings) (mf_Route_call := (c.fact 192)) (fi_Route_call := (c.fact 193)) (c_Route_call := c_Route_call) (k_Route_call := (c.fact 194)) (mf_Office_call := (c.fact 195)) (fi_Office_call := (c.fact 196)) (c_Office_call := c_Office_call) (k_Office_call := (c.fact 197)) (c_law := c_law) (k_law := (c.fact 198))
end Lw
/-! A1: the pen of the first laws. -/
namespace Lw
open PySem Dn
open L2 hiding bin
abbrev pen (cells : List Int) (b l : Int) : List (L2.Key × PV) := penD "cells" "place" "rest" cells b l
theorem K3 : Keys3 "cells" "place" "rest" := ⟨by decide +kernel, by decide +kernel, by decide +kernel⟩
theorem pc {cells b l} : valP (penD "cells" "place" "rest" cells b l) (.inr "cells") = some (.lst (cells.map .int)) := pen_c
theorem pb {cells b l} : valP (penD "cells" "place" "rest" cells b l) (.inr "place") = some (.int b) := pen_b K3
theorem pl {cells b l} : valP (penD "cells" "place" "rest" cells b l) (.inr "rest") = some (.int l) := pen_l K3
theorem ppb {cells b l v} : putP (penD "cells" "place" "rest" cells b l) (.inr "place") (.int v) = penD "cells" "place" "rest" cells v l := pen_put_b K3
theorem ppl {cells b l v} : putP (penD "cells" "place" "rest" cells b l) (.inr "rest") (.int v) = penD "cells" "place" "rest" cells b v := pen_put_l K3
theorem plen {kc kb kl : Str} {cells b l} : ((penD kc kb kl cells b l).length < sizeLine) = True := by rw [sizeLine_eq]; simp [penD]
local macro_rules | `(tactic| walk_at "st") => `(tactic| try simp only [ok_ret, ok_bnd, ok_bin, ok_var, varK_val, varK_own, pv_val, pv_own, ok_asB, asBK_bl, ok_andT, ok_orT, ok_notT, ok_iteT, ok_andV, ok_notV, blK_bl,
  ok_argN, ok_argC, ok_fits, ok_tupM, ok_lstM, ok_parN, ok_parS, intK_int, ok_slM, lstK_lst, ok_joinM, strK_str, ok_itemsM, ok_rngM, ok_seqM, seqK_nx, seqK_rt, seqK_ro, seqK_bk, seqK_ct, ok_ifM, ok_retM, ok_slO, ok_dropM, ok_skipM, ok_asgM, ok_par2, ok_par2VO, ok_par3,
  ok_callM, rtK_rt, rtK_ro, rtK_nx, ok_loopM, ok_lcM, ok_dispM, ok_prsN, ok_prsC, ok_hget0, getK_some, ok_hputM, putK0, pc, pb, pl, ppb, ppl, plen, ok_add, ok_addS, ok_addT, ok_addL, ok_sub, ok_mul, ok_ixL, ok_ixT, ok_unp, unpK_tup, ok_set0, ok_setC, ok_app, flK_nx, flK_ct, flK_bk, flK_rt, flK_ro, sl_L, sl_T, sl_S, it_L, it_T, wip, ok_div, ok_mod, ok_pow, ok_rep, ok_ord, ok_fInt, ok_fAbs, ok_lenL, ok_lenT, ok_lenS, ok_fListL, ok_fListT, ok_fTupleL, ok_fTupleT, ok_eqI, ok_eqB, ok_eqS,
  okF_ok, okF_exc, ok_runM, ok_appA, ok_len1, ok_argS, starK_tup, starK_lst, ok_chain, isNonB_non, isNonB_int, isNonB_bl, isNonB_str, isNonB_tup, isNonB_lst, isNonB_obj, ok_isN, ok_max, ok_min, isi_int_int, isi_int_bl, isi_int_non, isi_int_str, isi_int_tup, isi_int_lst, isi_bool_int, isi_bool_bl, isi_str_str, isi_str_int, isi_str_bl, isi_str_non, isi_str_tup, isi_str_lst, isi_tuple_tup, isi_tuple_int, isi_tuple_bl, isi_tuple_non, isi_tuple_str, isi_tuple_lst,
  ok_conM, ok_fputM, fputK_new, conV_new, ok_makeM, ok_methM, ok_insM, ok_raise,
  List.map_cons, List.map_nil, List.replicate_succ, List.replicate_zero, List.cons_append, List.nil_append, List.append_nil, List.getElem?_cons_zero, List.getElem?_cons_succ, List.set_cons_zero, List.set_cons_succ, Nat.reduceSub, decide_eq_true_eq, if_true, if_false, Bool.false_eq_true, Bool.not_true, Bool.not_false, beq_self_eq_true, Bool.true_eq_false, bne_self_eq_false, Bool.bne_true, Bool.bne_false, Nat.zero_add, Nat.reduceAdd, true_and, and_true, reduceCtorEq, List.length_cons, List.length_nil])
local macro_rules | `(tactic| walk_at "sv") => `(tactic| repeat' first | exact True.intro | with_reducible rfl | omega | exact cdiv100 (by omega) (by omega) | exact cmul100 (by omega) (by omega) | (show L2.CPow _ _; decide +kernel) | apply And.intro)
theorem sp_pen {n : Nat} {ns : List Int} {st : List MO} {Q : PV → List MO → Prop} (h : Q (.hnd st.length) (st ++ [.dic (pen (cutI ns none (some 63)) 0 0)])) : OkF (m_law_pen n [.scr ns] st) Q := by
  unfold m_law_pen
  refine okF_fnF rfl ?_
  unfold b_law_pen
  walk_at "st"
  refine ⟨_, rfl, ?_⟩
  walk_at "st"
  rw [pen_new K3]
  exact ⟨by decide, h⟩
/-- a pen at the bottom of the store, used at most B times; g stands above it -/
def Pn (cells : List Int) (B : Int) (g st : List MO) : Prop := ∃ b l, st = .dic (pen cells b l) :: g ∧ 0 ≤ b ∧ b ≤ B ∧ 0 ≤ l
theorem Pn.mono {cells : List Int} {B B' : Int} {g st : List MO} (h : Pn cells B g st) (hb : B ≤ B') : Pn cells B' g st := by
  obtain ⟨b, l, e, h1, h2, h3⟩ := h
  exact ⟨b, l, e, h1, Int.le_trans h2 hb, h3⟩
theorem Pn.up {cells : List Int} {B : Int} {g st more : List MO} (h : Pn cells B g st) : Pn cells B (g ++ more) (st ++ more) := by
  obtain ⟨b, l, rfl, h1, h2, h3⟩ := h
  exact ⟨b, l, rfl, h1, h2, h3⟩
theorem atI_cell {cells : List Int} {k : Int} (h0 : 0 ≤ k) (h1 : k < cells.length) : ∃ c : Int, L2.atI (cells.map PV.int) k = some (.int c) := by
  obtain ⟨v, e, hm⟩ := atI_in (ds := cells.map PV.int) h0 (by simpa using h1)
  obtain ⟨c, _, rfl⟩ := List.mem_map.mp hm
  exact ⟨c, e⟩
abbrev PR : List PV := [PV.int 2147483647, PV.int 2147483629, PV.int 2147483587, PV.int 2147483579, PV.int 2147483563, PV.int 2147483549, PV.int 2147483543]
theorem primes7 {b : Int} : ∃ p : Int, L2.atI PR (b % 7) = some (.int p) ∧ 2147483543 ≤ p ∧ p ≤ 2147483647 := by
  have h0 : 0 ≤ b % 7 := Int.emod_nonneg _ (by decide)
  have h1 : b % 7 < 7 := Int.emod_lt_of_pos _ (by decide)
  generalize b % 7 = r at h0 h1
  have : r = 0 ∨ r = 1 ∨ r = 2 ∨ r = 3 ∨ r = 4 ∨ r = 5 ∨ r = 6 := by omega
  rcases this with rfl | rfl | rfl | rfl | rfl | rfl | rfl <;> exact ⟨_, rfl, by decide, by decide⟩
theorem hprime {b : Int} {Z : PV → Prop} (h : ∀ p : Int, 2147483543 ≤ p → p ≤ 2147483647 → Z (.int p)) : ∃ v, L2.atI PR (b % 7) = some v ∧ Z v := by
  obtain ⟨p, e, h1, h2⟩ := primes7 (b := b)
  exact ⟨_, e, h p h1 h2⟩
theorem cm1 {x p : Int} (h1 : 2147483543 ≤ p) (h2 : p ≤ 2147483647) : L2.CMulW (x % p) (x % p + 16811) := by
  have := Int.emod_nonneg x (show p ≠ 0 by omega)
  have := Int.emod_lt_of_pos x (show 0 < p by omega)
  exact cmul100 (by omega) (by omega)
theorem cpow18 : L2.CPow 10 18 := by decide +kernel
set_option maxHeartbeats 4000000 in
theorem sp_draw {n : Nat} {k B : Int} {cells : List Int} {g st : List MO} {Q : PV → List MO → Prop} (hp : Pn cells B g st) (hk : 0 < k ∧ k ≤ 1000000) (hB : B < 1000000000)
    (h : ∀ r st', 0 ≤ r → r < k → Pn cells (B + 1) g st' → Q (.int r) st') : OkF (m_law_draw n [.hnd 0, .int k] st) Q := by
  obtain ⟨b, l, rfl, hb, hb2, hl⟩ := hp
  have hz : sizeLine = 16777216 := sizeLine_eq
  have hr : ∀ x : Int, 0 ≤ x % k ∧ x % k < k := fun x => ⟨Int.emod_nonneg _ (by omega), Int.emod_lt_of_pos _ hk.1⟩
  have h := fun (x b' l' : Int) (h1 : 0 ≤ b') (h2 : b' ≤ B + 1) (h3 : 0 ≤ l') => h (x % k) (.dic (pen cells b' l') :: g) (hr x).1 (hr x).2 ⟨b', l', rfl, h1, h2, h3⟩
  unfold m_law_draw
  refine okF_fnF rfl ?_
  unfold b_law_draw
  walk_at "st"
  split
  · rename_i hl0
    walk_at "sv"
    exact h _ _ _ (by omega) (by omega) (Int.ediv_nonneg (by omega) (by omega))
  · walk_at "sv"
    rw [ok_eqNil (toDs_ints _) (shaped_ints _)]
    walk_at "st"
    split
    case' isTrue =>
      rename_i hne
      have hlen : 0 < (cells.map PV.int).length := by
        cases cells with
        | nil => simp at hne
        | cons => simp
      obtain ⟨c, hc⟩ := atI_cell (cells := cells) (k := b % ((cells.map PV.int).length : Int)) (Int.emod_nonneg _ (by omega)) (by rw [← List.length_map (f := PV.int)]; exact Int.emod_lt_of_pos _ (by omega))
      refine ⟨by omega, _, hc, ?_⟩
    all_goals
      try walk_at "st"
      have hm : ∀ x p : Int, 2147483543 ≤ p → p ≤ 2147483647 → -1267650600228229401496703205376 ≤ x % p ∧ x % p ≤ 1267650600228229401496703205376 := fun x p h1 h2 => by
        have := Int.emod_nonneg x (show p ≠ 0 by omega)
        have := Int.emod_lt_of_pos x (show 0 < p by omega)
        omega
      repeat' first
        | exact True.intro
        | exact cdiv100 (by omega) (by omega)
        | exact cmul100 (by first | exact hm _ _ (by assumption) (by assumption) | omega) (by first | exact hm _ _ (by assumption) (by assumption) | omega)
        | exact cm1 (by assumption) (by assumption)
        | exact cpow18
        | apply And.intro
        | split
        | (refine hprime fun p hp1 hp2 => ?_; walk_at "st")
        | (refine h _ _ _ ?_ ?_ ?_)
        | exact Int.ediv_nonneg (by omega) (by omega)
        | omega
        | decide
set_option maxHeartbeats 4000000 in
theorem sp_pickL {n : Nat} {B : Int} {cells : List Int} {g st : List MO} {xs : List PV} {Q : PV → List MO → Prop} (hp : Pn cells B g st) (hx : 0 < xs.length ∧ xs.length ≤ 1000000) (hB : B < 1000000000)
    (h : ∀ v st', v ∈ xs → Pn cells (B + 1) g st' → Q v st') : OkF (m_law_pick n [.hnd 0, .lst xs] st) Q := by
  unfold m_law_pick
  refine okF_fnF rfl ?_
  unfold b_law_pick
  walk_at "st"
  refine sp_draw hp (by omega) hB fun r st' h0 h1 hp' => ?_
  walk_at "st"
  obtain ⟨v, e, hm⟩ := atI_in h0 h1
  exact ⟨v, e, h v st' hm hp'⟩
set_option maxHeartbeats 4000000 in
theorem sp_pickS {n : Nat} {B : Int} {cells : List Int} {g st : List MO} {x : Str} {Q : PV → List MO → Prop} (hp : Pn cells B g st) (hx : 0 < x.length ∧ x.length ≤ 1000000) (hB : B < 1000000000)
    (h : ∀ c st', c ∈ x.cps.toList → Pn cells (B + 1) g st' → Q (.str ⟨#[c]⟩) st') : OkF (m_law_pick n [.hnd 0, .str x] st) Q := by
  have hs : x.length ≤ sizeLine := by rw [sizeLine_eq]; omega
  unfold m_law_pick
  refine okF_fnF rfl ?_
  unfold b_law_pick
  walk_at "st"
  refine ⟨hs, ?_⟩
  refine sp_draw hp (by omega) hB fun r st' h0 h1 hp' => ?_
  rw [ok_ixS hs]
  have hl : x.cps.toList.length = x.length := by simp [Str.length]
  obtain ⟨c, e, hm⟩ := atI_in (ds := x.cps.toList) h0 (by rw [hl]; exact h1)
  exact ⟨c, e, h c st' hm hp'⟩
set_option maxHeartbeats 4000000 in
theorem sp_digits {n : Nat} {B : Int} {cells : List Int} {g st : List MO} {k : Int} {Q : PV → List MO → Prop} (hp : Pn cells B g st) (hk : 0 ≤ k ∧ k ≤ 30) (hB : B < 100000000)
    (h : ∀ (r : Int) st', 0 ≤ r → r < 10 ^ k.toNat → Pn cells (B + 30) g st' → Q (.int r) st') : OkF (m_law_digits n [.hnd 0, .int k] st) Q := by
  have hz : sizeLine = 16777216 := sizeLine_eq
  unfold m_law_digits
  refine okF_fnF rfl ?_
  unfold b_law_digits
  walk_at "st"
  refine ⟨_, rngP_nat (by omega) (by omega), ?_⟩
  refine ok_for (fun j s => ∃ (r : Int) (e3 : Option SV) (st' : List MO), s = ⟨[some (SV.val (PV.hnd 0)), some (SV.val (PV.int k)), some (SV.val (PV.int r)), e3], st'⟩ ∧ 0 ≤ r ∧ r < 10 ^ j ∧ Pn cells (B + j) g st') ⟨0, none, st, rfl, by decide, by decide, hp.mono (by omega)⟩ ?_ ?_
  · rintro j x s hx ⟨r, e3, st', rfl, h0, h1, hp'⟩
    obtain ⟨rfl, hj⟩ := rng_get hx
    have hpow : (10 : Int) ^ j ≤ 1000000000000000000000000000000 := by
      have h30 : (10 : Int) ^ 30 = 1000000000000000000000000000000 := by decide
      rw [← h30]
      exact_mod_cast Nat.pow_le_pow_right (n := 10) (by decide) (show j ≤ 30 by omega)
    generalize hq : (10 : Int) ^ j = q at h1 hpow
    walk_at "st"
    refine ⟨cmul100 (by omega) (by omega), ?_⟩
    refine sp_draw hp' (by omega) (by omega) fun d st2 hd0 hd1 hp2 => ?_
    walk_at "st"
    refine ⟨_, _, _, rfl, by omega, ?_, hp2.mono (by simp; omega)⟩
    rw [Int.pow_succ, hq]
    omega
  · rintro s ⟨r, e3, st', rfl, h0, h1, hp'⟩
    rw [rng_len] at h1 hp'
    walk_at "st"
    exact h r st' h0 h1 (hp'.mono (by omega))
end Lw
/-! A2: names. -/
namespace Lw
open PySem Dn
open L2 hiding bin
local macro_rules | `(tactic| walk_at "st") => `(tactic| try simp only [ok_ret, ok_bnd, ok_bin, ok_var, varK_val, varK_own, pv_val, pv_own, ok_asB, asBK_bl, ok_andT, ok_orT, ok_notT, ok_iteT, ok_andV, ok_notV, blK_bl,
  ok_argN, ok_argC, ok_fits, ok_tupM, ok_lstM, ok_parN, ok_parS, intK_int, ok_slM, lstK_lst, ok_joinM, strK_str, ok_itemsM, ok_rngM, ok_seqM, seqK_nx, seqK_rt, seqK_ro, seqK_bk, seqK_ct, ok_ifM, ok_retM, ok_slO, ok_dropM, ok_skipM, ok_asgM, ok_par2, ok_par2VO, ok_par3,
  ok_callM, rtK_rt, rtK_ro, rtK_nx, ok_loopM, ok_lcM, ok_dispM, ok_prsN, ok_prsC, ok_hget0, getK_some, ok_hputM, putK0, pc, pb, pl, ppb, ppl, plen, ok_add, ok_addS, ok_addT, ok_addL, ok_sub, ok_mul, ok_ixL, ok_ixT, ok_unp, unpK_tup, ok_set0, ok_setC, ok_app, flK_nx, flK_ct, flK_bk, flK_rt, flK_ro, sl_L, sl_T, sl_S, it_L, it_T, wip, ok_div, ok_mod, ok_pow, ok_rep, ok_ord, ok_fInt, ok_fAbs, ok_lenL, ok_lenT, ok_lenS, ok_fListL, ok_fListT, ok_fTupleL, ok_fTupleT, ok_eqI, ok_eqB, ok_eqS,
  okF_ok, okF_exc, ok_runM, ok_appA, ok_len1, ok_argS, starK_tup, starK_lst, ok_chain, isNonB_non, isNonB_int, isNonB_bl, isNonB_str, isNonB_tup, isNonB_lst, isNonB_obj, ok_isN, ok_max, ok_min, isi_int_int, isi_int_bl, isi_int_non, isi_int_str, isi_int_tup, isi_int_lst, isi_bool_int, isi_bool_bl, isi_str_str, isi_str_int, isi_str_bl, isi_str_non, isi_str_tup, isi_str_lst, isi_tuple_tup, isi_tuple_int, isi_tuple_bl, isi_tuple_non, isi_tuple_str, isi_tuple_lst,
  ok_conM, ok_fputM, fputK_new, conV_new, ok_makeM, ok_methM, ok_insM, ok_raise,
  List.map_cons, List.map_nil, List.replicate_succ, List.replicate_zero, List.cons_append, List.nil_append, List.append_nil, List.getElem?_cons_zero, List.getElem?_cons_succ, List.set_cons_zero, List.set_cons_succ, Nat.reduceSub, decide_eq_true_eq, if_true, if_false, Bool.false_eq_true, Bool.not_true, Bool.not_false, beq_self_eq_true, Bool.true_eq_false, bne_self_eq_false, Bool.bne_true, Bool.bne_false, Nat.zero_add, Nat.reduceAdd, true_and, and_true, reduceCtorEq, List.length_cons, List.length_nil])
abbrev AZ : Str := "abcdefghijklmnopqrstuvwxyz"
def lowC (c : Nat) : Prop := c ∈ AZ.cps.toList
instance (c : Nat) : Decidable (lowC c) := inferInstanceAs (Decidable (c ∈ AZ.cps.toList))
/-- a name: 1 to 8 letters -/
structure Nm (x : Str) : Prop where
  pos : 0 < x.length
  le : x.length ≤ 8
  low : ∀ c ∈ x.cps.toList, lowC c
theorem low_ok {c : Nat} (h : lowC c) : c < 0x110000 := by
  have : ∀ d ∈ AZ.cps.toList, d < 0x110000 := by decide +kernel
  exact this c h
/-- texts of small letters -/
structure Lo (w : Nat) (x : Str) : Prop where
  le : x.length ≤ w
  low : ∀ c ∈ x.cps.toList, lowC c
theorem Lo.cut {w : Nat} {x : Str} {lo hi : Option Int} (h : Lo w x) : Lo w (L2.cutS x lo hi) := by
  refine ⟨?_, fun c hc => ?_⟩
  · refine Nat.le_trans ?_ h.le
    unfold L2.cutS
    show ((List.take _ _).toArray).size ≤ x.cps.size
    rw [List.size_toArray, List.length_take, List.length_drop, Array.length_toList]
    omega
  · have : c ∈ x.cps.toList := by
      unfold L2.cutS at hc
      exact List.mem_of_mem_drop (List.mem_of_mem_take (by simpa using hc))
    exact h.low c this
theorem app_cps {x y : Str} : (x ++ y).cps.toList = x.cps.toList ++ y.cps.toList := by
  show (x.cps ++ y.cps).toList = _
  rw [Array.toList_append]
theorem app_len {x y : Str} : (x ++ y).length = x.length + y.length := by
  show (x.cps ++ y.cps).size = _
  rw [Array.size_append]
  rfl
theorem Lo.app {w v : Nat} {x y : Str} (h : Lo w x) (h' : Lo v y) : Lo (w + v) (x ++ y) := by
  refine ⟨by rw [app_len]; exact Nat.add_le_add h.le h'.le, fun c hc => ?_⟩
  rw [app_cps] at hc
  rcases List.mem_append.mp hc with hc | hc
  · exact h.low c hc
  · exact h'.low c hc
theorem Lo.one {c : Nat} (h : lowC c) : Lo 1 ⟨#[c]⟩ := ⟨Nat.le_refl _, fun d hd => by
  have : d = c := by simpa using hd
  rw [this]; exact h⟩
theorem cut_to_len {x : Str} {k : Nat} (h : k ≤ x.length) : (L2.cutS x none (some (k : Int))).cps.toList = x.cps.toList.take k := by
  unfold L2.cutS
  rw [HT.sIx_none, HT.sIx_nat]
  simp [Str.length] at h ⊢
theorem cut_from_len {x : Str} {k : Nat} (h : k ≤ x.length) : (L2.cutS x (some (k : Int)) none).cps.toList = x.cps.toList.drop k := by
  unfold L2.cutS
  rw [HT.sIx_none, HT.sIx_nat]
  simp [Str.length] at h ⊢
  rw [Nat.min_eq_left h, List.take_of_length_le]
  rw [List.length_drop, Array.length_toList]
  exact Nat.le_refl _
theorem len_cps {x : Str} : x.cps.toList.length = x.length := by simp [Str.length]
/-- the letters' list is without twice -/
theorem az_nodup : AZ.cps.toList.Nodup := by decide +kernel
theorem lowJoin : ∀ {zs : List Str}, (∀ z ∈ zs, Lo 1 z ∧ z.length = 1) → ∀ c ∈ (Txt.join (Str.ofString "") zs).cps.toList, lowC c := by
  intro zs h
  have key : ∀ (ps : List Str) (acc : Array Nat), (∀ z ∈ ps, Lo 1 z ∧ z.length = 1) → (∀ c ∈ acc.toList, lowC c) → ∀ c ∈ (ps.foldl (fun acc p => acc ++ (Str.ofString "").cps ++ p.cps) acc).toList, lowC c := by
    intro ps
    induction ps with
    | nil => intro acc _ h c hc; exact h c hc
    | cons p ps ih =>
      intro acc hz ha c hc
      rw [List.foldl_cons] at hc
      refine ih _ (fun z hm => hz z (List.mem_cons_of_mem _ hm)) (fun c hc => ?_) c hc
      rw [Array.toList_append, Array.toList_append] at hc
      rcases List.mem_append.mp hc with hc | hc
      · rcases List.mem_append.mp hc with hc | hc
        · exact ha c hc
        · exact absurd hc (by rw [show (Str.ofString "").cps.toList = [] from rfl]; exact List.not_mem_nil)
      · exact (hz p List.mem_cons_self).1.low c hc
  cases zs with
  | nil => intro c hc; exact absurd hc (by rw [show (Txt.join (Str.ofString "") []).cps.toList = [] from rfl]; exact List.not_mem_nil)
  | cons z r => exact key r z.cps (fun y hy => h y (List.mem_cons_of_mem _ hy)) (fun c hc => (h z List.mem_cons_self).1.low c hc)
theorem g_odd {fi g : Int} {i j : Nat} (hg : g = 1 ∨ g = 3 ∨ g = 5 ∨ g = 7 ∨ g = 9 ∨ g = 11 ∨ g = 15 ∨ g = 17 ∨ g = 19 ∨ g = 21 ∨ g = 23 ∨ g = 25) (hi : i < 26) (hj : j < 26) (h : (fi + g * (i : Int)) % 26 = (fi + g * (j : Int)) % 26) : i = j := by
  rcases hg with rfl | rfl | rfl | rfl | rfl | rfl | rfl | rfl | rfl | rfl | rfl | rfl <;> omega
theorem nodup_inj {α : Type} {l : List α} (h : l.Nodup) {i j : Nat} (hi : i < l.length) (hj : j < l.length) (e : l[i] = l[j]) : i = j := by
  have h := List.pairwise_iff_getElem.mp h
  rcases Nat.lt_trichotomy i j with q | q | q
  · exact absurd e (h i j hi hj q)
  · exact q
  · exact absurd e.symm (h j i hj hi q)
/-- what a name is like: before, a letter, behind -/
def nmAt (stem : Str) (at' : Nat) (c : Nat) (x : Str) : Prop := ∃ tl : List Nat, x.cps.toList = stem.cps.toList.take at' ++ c :: tl
theorem nmAt_ne {stem : Str} {k : Nat} {c d : Nat} {x y : Str} (hk : k ≤ stem.length) (hx : nmAt stem k c x) (hy : nmAt stem k d y) (h : c ≠ d) : x ≠ y := by
  rintro rfl
  obtain ⟨t, e⟩ := hx
  obtain ⟨u, e2⟩ := hy
  rw [e] at e2
  have := List.append_cancel_left e2
  exact h (List.cons.inj this).1
set_option maxHeartbeats 4000000 in
theorem sp_names {n : Nat} {B : Int} {k : Int} {cells : List Int} {g st : List MO} {Q : PV → List MO → Prop} (hp : Pn cells B g st) (hB : B < 100000000) (hk : 0 ≤ k ∧ k ≤ 26)
    (h : ∀ (ss : List Str) st', ss.length = k.toNat → (∀ x ∈ ss, Nm x) → ss.Nodup → Pn cells (B + 20) g st' → Q (.lst (ss.map .str)) st') : OkF (m_law_names n [.hnd 0, .int k] st) Q := by
  have hz : sizeLine = 16777216 := sizeLine_eq
  unfold m_law_names
  refine okF_fnF rfl ?_
  unfold b_law_names
  walk_at "st"
  refine sp_draw hp (by omega) (by omega) fun r st1 h0 h1 hp1 => ?_
  refine ⟨_, rngP_nat (by omega) (by omega), ?_⟩
  refine ok_lcEach (fun j st => Pn cells (B + 1 + (j : Int)) g st) (fun y => ∃ x : Str, y = .str x ∧ (Lo 1 x ∧ x.length = 1)) rfl (by simp) (by rw [rng_len]; omega) (hp1.mono (by omega)) (fun _ => rfl) ?_ ?_
  · intro j x st hx hp
    obtain ⟨rfl, hj⟩ := rng_get hx
    walk_at "st"
    refine sp_pickS hp (by decide) (by omega) fun c st' hc hp' => ?_
    exact ⟨⟨_, rfl, Lo.one hc, rfl⟩, hp'.mono (by simp; omega)⟩
  intro ys st3 hl hy hp3
  obtain ⟨zs, rfl, hzs⟩ := ex_map hy
  rw [rng_len, List.length_map] at hl
  rw [rng_len] at hp3
  have hj : (zs.map (·.length)).sum + zs.length * (Str.ofString "").length ≤ 16777216 := by
    have h1 := sum_le (w := 1) (zs := zs) fun z hz => (hzs z hz).1.le
    have h2 : zs.length * (Str.ofString "").length = 0 := Nat.mul_zero _
    omega
  refine ⟨_, joinP_map hj, ?_⟩
  have hlen : (Txt.join (Str.ofString "") zs).length = zs.length := join_one zs fun z hz => (hzs z hz).2
  have hstem : Lo 7 (Txt.join (Str.ofString "") zs) := ⟨by omega, lowJoin hzs⟩
  generalize Txt.join (Str.ofString "") zs = stem at hstem hlen
  walk_at "st"
  refine ⟨by omega, ?_⟩
  refine sp_draw hp3 (by omega) (by omega) fun at' st4 ha0 ha1 hp4 => ?_
  refine sp_draw hp4 (by omega) (by omega) fun fi st5 hf0 hf1 hp5 => ?_
  refine sp_draw hp5 (by omega) (by omega) fun cu st6 hc0 hc1 hp6 => ?_
  walk_at "st"
  refine ⟨by omega, ?_⟩
  refine sp_pickL hp6 (by decide) (by omega) fun v st7 hv hp7 => ?_
  obtain ⟨gg, rfl, hg⟩ : ∃ g : Int, v = .int g ∧ (g = 1 ∨ g = 3 ∨ g = 5 ∨ g = 7 ∨ g = 9 ∨ g = 11 ∨ g = 15 ∨ g = 17 ∨ g = 19 ∨ g = 21 ∨ g = 23 ∨ g = 25) := by
    simp only [List.mem_cons, List.not_mem_nil, or_false] at hv
    rcases hv with rfl | rfl | rfl | rfl | rfl | rfl | rfl | rfl | rfl | rfl | rfl | rfl <;> exact ⟨_, rfl, by decide⟩
  walk_at "st"
  refine ⟨by omega, _, rngP_nat (by omega) (by omega), ?_⟩
  obtain ⟨a, rfl⟩ := Int.eq_ofNat_of_zero_le ha0
  have hal : a ≤ stem.length := by omega
  have hst := hstem.le
  refine ok_for (fun j s => ∃ e9 e10 e11 fs, s = ⟨[some (SV.val (PV.hnd 0)), some (SV.val (PV.int k)), some (SV.val (PV.str AZ)), some (SV.val (PV.str stem)), some (SV.val (PV.int a)), some (SV.val (PV.int fi)), some (SV.val (PV.int cu)), some (SV.val (PV.int gg)), some (SV.own (fs.map PV.str)), e9, e10, e11, none], st7⟩ ∧ fs.length = j ∧ (∀ x ∈ fs, Nm x ∧ ∃ t : Nat, t < j ∧ ∃ c, L2.atI AZ.cps.toList ((fi + gg * (t : Int)) % 26) = some c ∧ nmAt stem a c x) ∧ fs.Nodup) ⟨none, none, none, [], rfl, rfl, (fun x hx => by cases hx), List.nodup_nil⟩ ?_ ?_
  · rintro j x s hx ⟨e9, e10, e11, fs, rfl, hfl, hfs, hnd⟩
    obtain ⟨rfl, hj⟩ := rng_get hx
    walk_at "st"
    have hs1 : Lo 7 (L2.cutS stem (some (a : Int)) none) := hstem.cut
    have hs2 : Lo 7 (L2.cutS stem none (some (a : Int))) := hstem.cut
    have hs3 : Lo 7 (L2.cutS (L2.cutS stem (some (a : Int)) none) none (some ((j : Int) % 3))) := hs1.cut
    have e1 := cut_from_len hal
    have e2 := cut_to_len hal
    have l1 : (L2.cutS stem (some (a : Int)) none).length = stem.length - a := by rw [← len_cps, e1, List.length_drop, len_cps]
    have l2 : (L2.cutS stem none (some (a : Int))).length = a := by rw [← len_cps, e2, List.length_take, len_cps]; omega
    have l3 : (L2.cutS (L2.cutS stem (some (a : Int)) none) none (some ((j : Int) % 3))).length ≤ stem.length - a := by rw [← l1]; exact (Lo.cut (w := (L2.cutS stem (some (a : Int)) none).length) ⟨Nat.le_refl _, hs1.low⟩).le
    have hlt : AZ.length ≤ sizeLine := by rw [hz]; decide
    obtain ⟨c, hc, hcm⟩ := atI_in (ds := AZ.cps.toList) (k := (fi + gg * (j : Int)) % 26) (Int.emod_nonneg _ (by decide)) (Int.emod_lt_of_pos _ (by decide))
    have hc1 : Lo 1 ⟨#[c]⟩ := Lo.one hcm
    have key : ∀ (tl : Str), Lo 7 tl → tl.length ≤ stem.length - a → L2.CMulW gg j ∧ True → (0 < (26 : Int)) → ((L2.cutS stem none (some (a : Int))).length + (⟨#[c]⟩ : Str).length ≤ sizeLine ∧ (L2.cutS stem none (some (a : Int)) ++ ⟨#[c]⟩).length + tl.length ≤ sizeLine) ∧ (Nm (L2.cutS stem none (some (a : Int)) ++ ⟨#[c]⟩ ++ tl) ∧ nmAt stem a c (L2.cutS stem none (some (a : Int)) ++ ⟨#[c]⟩ ++ tl)) := fun tl htl hll _ _ => by
      have l0 : (⟨#[c]⟩ : Str).length = 1 := rfl
      refine ⟨⟨by omega, by rw [app_len]; omega⟩, ⟨by rw [app_len, app_len]; omega, by rw [app_len, app_len]; omega, ((hs2.app hc1).app htl).low⟩, tl.cps.toList, ?_⟩
      rw [app_cps, app_cps, e2, List.append_assoc]
      rfl
    have step : ∀ (tl : Str) (e10 : Option SV), Lo 7 tl → tl.length ≤ stem.length - a → ∃ (e9 e10' e11 : Option SV) (fs' : List Str), (⟨[some (SV.val (PV.hnd 0)), some (SV.val (PV.int k)), some (SV.val (PV.str AZ)), some (SV.val (PV.str stem)), some (SV.val (PV.int a)), some (SV.val (PV.int fi)), some (SV.val (PV.int cu)), some (SV.val (PV.int gg)), some (SV.own (fs.map PV.str ++ [PV.str (L2.cutS stem none (some (a : Int)) ++ ⟨#[c]⟩ ++ tl)])), some (SV.val (PV.int j)), e10, some (SV.val (PV.str ⟨#[c]⟩)), none], st7⟩ : S) = ⟨[some (SV.val (PV.hnd 0)), some (SV.val (PV.int k)), some (SV.val (PV.str AZ)), some (SV.val (PV.str stem)), some (SV.val (PV.int a)), some (SV.val (PV.int fi)), some (SV.val (PV.int cu)), some (SV.val (PV.int gg)), some (SV.own (fs'.map PV.str)), e9, e10', e11, none], st7⟩ ∧ fs'.length = j + 1 ∧ (∀ x ∈ fs', Nm x ∧ ∃ t : Nat, t < j + 1 ∧ ∃ c, L2.atI AZ.cps.toList ((fi + gg * (t : Int)) % 26) = some c ∧ nmAt stem a c x) ∧ fs'.Nodup := fun tl e10 htl hll => by
      obtain ⟨_, hnm, hat⟩ := key tl htl hll ⟨cmul100 (by omega) (by omega), trivial⟩ (by decide)
      refine ⟨_, _, _, fs ++ [_], by rw [List.map_append]; rfl, by rw [List.length_append, hfl]; rfl, fun x hx => ?_, ?_⟩
      · rcases List.mem_append.mp hx with hx | hx
        · obtain ⟨q1, t, ht, q2⟩ := hfs x hx
          exact ⟨q1, t, by omega, q2⟩
        · rw [List.mem_singleton.mp hx]
          exact ⟨hnm, j, by omega, c, hc, hat⟩
      · refine List.nodup_append.mpr ⟨hnd, List.nodup_cons.mpr ⟨List.not_mem_nil, List.nodup_nil⟩, fun x hx y hy => ?_⟩
        rw [List.mem_singleton.mp hy]
        obtain ⟨q1, t, ht, d, hd, q2⟩ := hfs x hx
        refine nmAt_ne hal q2 hat fun e => ?_
        subst e
        have h26 : AZ.cps.toList.length = 26 := by decide +kernel
        have m0 : ∀ z : Int, 0 ≤ z % 26 ∧ z % 26 < 26 := fun z => ⟨Int.emod_nonneg _ (by decide), Int.emod_lt_of_pos _ (by decide)⟩
        obtain ⟨p1, hp1⟩ := Int.eq_ofNat_of_zero_le (m0 (fi + gg * (t : Int))).1
        obtain ⟨p2, hp2⟩ := Int.eq_ofNat_of_zero_le (m0 (fi + gg * (j : Int))).1
        have b1 : p1 < AZ.cps.toList.length := by have := (m0 (fi + gg * (t : Int))).2; omega
        have b2 : p2 < AZ.cps.toList.length := by have := (m0 (fi + gg * (j : Int))).2; omega
        have w1 := L2.atI_nat (List.getElem?_eq_getElem b1)
        have w2 := L2.atI_nat (List.getElem?_eq_getElem b2)
        rw [hp1, w1] at hd
        rw [hp2, w2] at hc
        have ee : AZ.cps.toList[p1] = AZ.cps.toList[p2] := by rw [Option.some.inj hd, Option.some.inj hc]
        have := nodup_inj az_nodup b1 b2 ee
        have := g_odd (fi := fi) hg (i := t) (j := j) (by omega) (by omega) (by rw [hp1, hp2]; omega)
        omega
    have hfl2 : (fs.map PV.str).length < sizeLine := by rw [List.length_map]; omega
    split
    · obtain ⟨⟨k1, k2⟩, _⟩ := key _ hs1 (by omega) ⟨cmul100 (by omega) (by omega), trivial⟩ (by decide)
      walk_at "st"
      refine ⟨by omega, ?_⟩
      walk_at "st"
      refine ⟨cmul100 (by omega) (by omega), by decide, ?_⟩
      rw [ok_ixS hlt]
      refine ⟨c, hc, ?_⟩
      walk_at "st"
      refine ⟨⟨_, rfl⟩, by omega, k1, k2, ?_⟩
      rw [ok_push rfl hfl2]
      walk_at "st"
      exact step _ _ hs1 (by omega)
    · obtain ⟨⟨k1, k2⟩, _⟩ := key _ hs3 (by omega) ⟨cmul100 (by omega) (by omega), trivial⟩ (by decide)
      walk_at "st"
      refine ⟨by omega, by decide, by omega, ?_⟩
      walk_at "st"
      refine ⟨cmul100 (by omega) (by omega), by decide, ?_⟩
      rw [ok_ixS hlt]
      refine ⟨c, hc, ?_⟩
      walk_at "st"
      refine ⟨⟨_, rfl⟩, by omega, k1, k2, ?_⟩
      rw [ok_push rfl hfl2]
      walk_at "st"
      exact step _ _ hs3 (by omega)
  · rintro s ⟨e9, e10, e11, fs, rfl, hfl, hfs, hnd⟩
    walk_at "st"
    refine h fs st7 ?_ (fun x hx => (hfs x hx).1) hnd (hp7.mono (by omega))
    rw [hfl, rng_len]
/-! ### names are told -/
theorem sign_in {c : Nat} {z : Str} {s : S} {E : PV → S → Prop} {Q : PV → S → Prop} : Okx E (lft (inP false (.str ⟨#[c]⟩) (.str z))) s Q ↔ Q (.bl (decide (c ∈ z.cps.toList))) s := by
  rw [ok_lft]
  unfold inP
  simp
def nameB (x : Str) : Bool := decide (0 < x.length) && (decide (x.length ≤ 8) && x.cps.toList.all fun c => decide (lowC c))
theorem nameB_iff {x : Str} : nameB x = true ↔ Nm x := by
  unfold nameB
  simp only [Bool.and_eq_true, decide_eq_true_eq, List.all_eq_true]
  exact ⟨fun h => ⟨h.1, h.2.1, h.2.2⟩, fun h => ⟨h.pos, h.le, h.low⟩⟩
theorem it_S {x : Str} {R : List PV → Prop} : (∃ z, itemsP (.str x) = some z ∧ R z) ↔ R (x.cps.toList.map fun c => .str ⟨#[c]⟩) := by simp [itemsP, signsP]
set_option maxHeartbeats 4000000 in
theorem eq_is_name {n : Nat} {x : Str} {st : List MO} (hx : x.length ≤ 16777216) : m_is_name n [.str x] st = .ok (.bl (nameB x)) st := by
  have hz : sizeLine = 16777216 := sizeLine_eq
  refine OkFx.eq ?_
  unfold m_is_name
  refine okF_fnF rfl ?_
  unfold b_is_name
  walk_at "st"
  refine ⟨by omega, ?_⟩
  walk_at "st"
  unfold nameB
  split
  · rename_i h1
    split
    · rename_i h2
      walk_at "st"
      rw [it_S]
      refine ok_lcT (fun c => PV.str ⟨#[c]⟩) (fun _ => true) (fun c => PV.bl (decide (lowC c))) rfl (by simp) (by rw [len_cps]; omega) (fun _ => rfl) (fun c hc => ?_) (fun c hc _ => ?_) ?_
      · walk_at "st"
      · walk_at "st"
        rw [sign_in]
        exact ⟨rfl, rfl⟩
      · rw [filter_true]
        refine ok_allM.mpr ?_
        have h1' : 0 < x.length := by omega
        have h2' : x.length ≤ 8 := by omega
        simp [h1', h2', rtK]
    · rename_i h2
      walk_at "st"
      have h2' : ¬ x.length ≤ 8 := by omega
      simp [h2', rtK]
  · rename_i h1
    walk_at "st"
    have h1' : ¬ 0 < x.length := by omega
    simp [h1', rtK]
end Lw
/-! A3: offices: their values, rows, how they are made. -/
namespace Lw
open PySem Dn
open L2 hiding bin
local macro_rules | `(tactic| walk_at "st") => `(tactic| try simp only [ok_ret, ok_bnd, ok_bin, ok_var, varK_val, varK_own, pv_val, pv_own, ok_asB, asBK_bl, ok_andT, ok_orT, ok_notT, ok_iteT, ok_andV, ok_notV, blK_bl,
  ok_argN, ok_argC, ok_fits, ok_tupM, ok_lstM, ok_parN, ok_parS, intK_int, ok_slM, lstK_lst, ok_joinM, strK_str, ok_itemsM, ok_rngM, ok_seqM, seqK_nx, seqK_rt, seqK_ro, seqK_bk, seqK_ct, ok_ifM, ok_retM, ok_slO, ok_dropM, ok_skipM, ok_asgM, ok_par2, ok_par2VO, ok_par3,
  ok_callM, rtK_rt, rtK_ro, rtK_nx, ok_loopM, ok_lcM, ok_dispM, ok_prsN, ok_prsC, ok_hget0, getK_some, ok_hputM, putK0, pc, pb, pl, ppb, ppl, plen, ok_add, ok_addS, ok_addT, ok_addL, ok_sub, ok_mul, ok_ixL, ok_ixT, ok_unp, unpK_tup, ok_set0, ok_setC, ok_app, flK_nx, flK_ct, flK_bk, flK_rt, flK_ro, sl_L, sl_T, sl_S, it_L, it_T, wip, ok_div, ok_mod, ok_pow, ok_rep, ok_ord, ok_fInt, ok_fAbs, ok_lenL, ok_lenT, ok_lenS, ok_fListL, ok_fListT, ok_fTupleL, ok_fTupleT, ok_eqI, ok_eqB, ok_eqS,
  okF_ok, okF_exc, ok_runM, ok_appA, ok_len1, ok_argS, starK_tup, starK_lst, ok_chain, isNonB_non, isNonB_int, isNonB_bl, isNonB_str, isNonB_tup, isNonB_lst, isNonB_obj, ok_isN, ok_max, ok_min, isi_int_int, isi_int_bl, isi_int_non, isi_int_str, isi_int_tup, isi_int_lst, isi_bool_int, isi_bool_bl, isi_str_str, isi_str_int, isi_str_bl, isi_str_non, isi_str_tup, isi_str_lst, isi_tuple_tup, isi_tuple_int, isi_tuple_bl, isi_tuple_non, isi_tuple_str, isi_tuple_lst,
  ok_conM, ok_fputM, fputK_new, conV_new, ok_makeM, ok_methM, ok_insM, ok_raise,
  List.map_cons, List.map_nil, List.replicate_succ, List.replicate_zero, List.cons_append, List.nil_append, List.append_nil, List.getElem?_cons_zero, List.getElem?_cons_succ, List.set_cons_zero, List.set_cons_succ, Nat.reduceSub, decide_eq_true_eq, if_true, if_false, Bool.false_eq_true, Bool.not_true, Bool.not_false, beq_self_eq_true, Bool.true_eq_false, bne_self_eq_false, Bool.bne_true, Bool.bne_false, Nat.zero_add, Nat.reduceAdd, true_and, and_true, reduceCtorEq, List.length_cons, List.length_nil])
local macro_rules | `(tactic| walk_at "sx") => `(tactic| try simp only [ok_ret, ok_bnd, ok_bin, ok_var, varK_val, varK_own, pv_val, pv_own, ok_asB, asBK_bl, ok_andT, ok_orT, ok_notT, ok_iteT, ok_andV, ok_notV, blK_bl,
  ok_argN, ok_argC, ok_fits, ok_tupM, ok_lstM, ok_parN, ok_parS, intK_int, ok_slM, lstK_lst, ok_joinM, strK_str, ok_itemsM, ok_rngM, seqK_nx, seqK_rt, seqK_ro, seqK_bk, seqK_ct, ok_ifM, ok_retM, ok_slO, ok_dropM, ok_skipM, ok_asgM, ok_par2, ok_par2VO, ok_par3,
  ok_callM, rtK_rt, rtK_ro, rtK_nx, ok_loopM, ok_lcM, ok_dispM, ok_prsN, ok_prsC, ok_hget0, getK_some, ok_hputM, putK0, pc, pb, pl, ppb, ppl, plen, ok_add, ok_addS, ok_addT, ok_addL, ok_sub, ok_mul, ok_ixL, ok_ixT, ok_unp, unpK_tup, ok_set0, ok_setC, ok_app, flK_nx, flK_ct, flK_bk, flK_rt, flK_ro, sl_L, sl_T, sl_S, it_L, it_T, wip, ok_div, ok_mod, ok_pow, ok_rep, ok_ord, ok_fInt, ok_fAbs, ok_lenL, ok_lenT, ok_lenS, ok_fListL, ok_fListT, ok_fTupleL, ok_fTupleT, ok_eqI, ok_eqB, ok_eqS,
  okF_ok, okF_exc, ok_runM, ok_appA, ok_len1, ok_argS, starK_tup, starK_lst, ok_chain, isNonB_non, isNonB_int, isNonB_bl, isNonB_str, isNonB_tup, isNonB_lst, isNonB_obj, ok_isN, ok_max, ok_min, isi_int_int, isi_int_bl, isi_int_non, isi_int_str, isi_int_tup, isi_int_lst, isi_bool_int, isi_bool_bl, isi_str_str, isi_str_int, isi_str_bl, isi_str_non, isi_str_tup, isi_str_lst, isi_tuple_tup, isi_tuple_int, isi_tuple_bl, isi_tuple_non, isi_tuple_str, isi_tuple_lst,
  ok_conM, ok_fputM, fputK_new, conV_new, ok_makeM, ok_methM, ok_insM, ok_raise,
  List.map_cons, List.map_nil, List.replicate_succ, List.replicate_zero, List.cons_append, List.nil_append, List.append_nil, List.getElem?_cons_zero, List.getElem?_cons_succ, List.set_cons_zero, List.set_cons_succ, Nat.reduceSub, decide_eq_true_eq, if_true, if_false, Bool.false_eq_true, Bool.not_true, Bool.not_false, beq_self_eq_true, Bool.true_eq_false, bne_self_eq_false, Bool.bne_true, Bool.bne_false, Nat.zero_add, Nat.reduceAdd, true_and, and_true, reduceCtorEq, List.length_cons, List.length_nil])
structure OfV where
  nm : Str
  src : Str
  dst : Str
  p : Int
  q : Int
  fee : Int
  least : Int
  most : Option Int
deriving DecidableEq
def OfV.mostV (o : OfV) : PV := match o.most with
  | none => .non
  | some m => .int m
structure OfV.Wf (o : OfV) : Prop where
  nm : Nm o.nm
  src : Nm o.src
  dst : Nm o.dst
  p : 1 ≤ o.p ∧ o.p ≤ 9
  q : 1 ≤ o.q ∧ o.q ≤ 9
  fee : 0 ≤ o.fee ∧ o.fee ≤ 20
  least : 0 ≤ o.least ∧ o.least ≤ 1000
  most : ∀ m, o.most = some m → o.least ≤ m ∧ m ≤ 1000000
def OfV.row (o : OfV) : PV := .tup [.str o.nm, .str o.src, .str o.dst, .tup [.int o.p, .int o.q], .int o.fee, .int o.least, o.mostV]
abbrev KS5 : List Str := ["name", "own_ends", "own_rate", "own_fee", "own_least"]
abbrev KS6 : List Str := ["name", "own_ends", "own_rate", "own_fee", "own_least", "own_most"]
abbrev OfV.vs5 (o : OfV) : List PV := [.str o.nm, .tup [.str o.src, .str o.dst], .tup [.int o.p, .int o.q], .int o.fee, .int o.least]
abbrev OfV.vs6 (o : OfV) (m : Int) : List PV := [.str o.nm, .tup [.str o.src, .str o.dst], .tup [.int o.p, .int o.q], .int o.fee, .int o.least, .int m]
def OfV.pv (o : OfV) : PV := match o.most with
  | none => .obj "Office" KS5 o.vs5
  | some m => .obj "CappedOffice" KS6 (o.vs6 m)
theorem OfV.pv_none {o : OfV} (h : o.most = none) : o.pv = .obj "Office" KS5 o.vs5 := by unfold OfV.pv; rw [h]
theorem OfV.pv_some {o : OfV} {m : Int} (h : o.most = some m) : o.pv = .obj "CappedOffice" KS6 (o.vs6 m) := by unfold OfV.pv; rw [h]
def OfV.cap (o : OfV) (a : Int) : Int := match o.most with
  | none => a
  | some m => min a m
def OfV.val (o : OfV) (a : Int) : Int := max 0 (o.cap a * o.p / o.q - o.fee)
def OfV.res (o : OfV) (a : Int) : PV := if o.cap a < o.least then .non else .int (o.val a)
set_option maxHeartbeats 4000000 in
theorem sp_row {n : Nat} {B : Int} {cells : List Int} {g st : List MO} {a b c : Str} {Q : PV → List MO → Prop} (hp : Pn cells B g st) (hB : B < 100000) (ha : Nm a) (hb : Nm b) (hc : Nm c)
    (h : ∀ (o : OfV) st', o.nm = a → o.src = b → o.dst = c → o.Wf → Pn cells (B + 50) g st' → Q o.row st') : OkF (m_law_row n [.hnd 0, .str a, .str b, .str c] st) Q := by
  have hz : sizeLine = 16777216 := sizeLine_eq
  unfold m_law_row
  refine okF_fnF rfl ?_
  unfold b_law_row
  walk_at "st"
  refine sp_draw hp (by omega) (by omega) fun p st1 hp0 hp1 hs1 => ?_
  refine sp_draw hs1 (by omega) (by omega) fun q st2 hq0 hq1 hs2 => ?_
  refine ⟨by omega, ?_⟩
  refine sp_draw hs2 (by omega) (by omega) fun f st3 hf0 hf1 hs3 => ?_
  refine ⟨by omega, ?_⟩
  refine sp_pickL hs3 (by simp) (by omega) fun v st4 hv hs4 => ?_
  obtain ⟨fee, rfl, hfee⟩ : ∃ x : Int, v = .int x ∧ 0 ≤ x ∧ x ≤ 20 := by
    simp only [List.mem_cons, List.not_mem_nil, or_false] at hv
    rcases hv with rfl | rfl | rfl | rfl | rfl <;> exact ⟨_, rfl, by omega, by omega⟩
  refine sp_draw hs4 (by omega) (by omega) fun l1 st5 hl0 hl1 hs5 => ?_
  refine sp_draw hs5 (by omega) (by omega) fun l2 st6 hl2 hl3 hs6 => ?_
  refine ⟨by omega, ?_⟩
  refine sp_pickL hs6 (by simp) (by omega) fun v st7 hv hs7 => ?_
  obtain ⟨least, rfl, hle⟩ : ∃ x : Int, v = .int x ∧ 0 ≤ x ∧ x ≤ 1000 := by
    simp only [List.mem_cons, List.not_mem_nil, or_false] at hv
    rcases hv with rfl | rfl | rfl | rfl | rfl | rfl <;> exact ⟨_, rfl, by omega, by omega⟩
  refine sp_draw hs7 (by omega) (by omega) fun z st8 hz0 hz1 hs8 => ?_
  walk_at "st"
  split
  · refine ⟨by decide +kernel, ?_⟩
    refine sp_draw hs8 (by omega) (by omega) fun w st9 hw0 hw1 hs9 => ?_
    refine sp_digits (k := 6) hs9 (by decide) (by omega) fun dg st10 hd0 hd1 hs10 => ?_
    refine ⟨by decide +kernel, by omega, ?_⟩
    refine sp_pickL hs10 (by simp) (by omega) fun v st11 hv hs11 => ?_
    have hd2 : dg < 1000000 := hd1
    obtain ⟨more, rfl, hmo⟩ : ∃ x : Int, v = .int x ∧ 0 ≤ x ∧ x ≤ 1000000 := by
      simp only [List.mem_cons, List.not_mem_nil, or_false] at hv
      rcases hv with rfl | rfl | rfl | rfl | rfl
      · exact ⟨_, rfl, by omega, by omega⟩
      · exact ⟨_, rfl, by omega, by omega⟩
      · exact ⟨_, rfl, by omega, by omega⟩
      · exact ⟨_, rfl, by omega, by omega⟩
      · exact ⟨_, rfl, by decide, by decide⟩
    walk_at "st"
    refine ⟨by omega, ?_⟩
    have e10 : (10 : Int) ^ (6 : Int).toNat = 1000000 := by decide
    refine h ⟨a, b, c, 1 + p, 1 + q, fee, least, some (min (10 ^ (6 : Int).toNat) (least + more))⟩ st11 rfl rfl rfl ⟨ha, hb, hc, ?_, ?_, hfee, hle, ?_⟩ (hs11.mono (by omega))
    · exact ⟨by show 1 ≤ 1 + p; omega, by show 1 + p ≤ 9; omega⟩
    · exact ⟨by show 1 ≤ 1 + q; omega, by show 1 + q ≤ 9; omega⟩
    · intro m hm
      have hm : min ((10 : Int) ^ (6 : Int).toNat) (least + more) = m := Option.some.inj hm
      rw [e10] at hm
      show least ≤ m ∧ m ≤ 1000000
      omega
  · walk_at "st"
    refine ⟨by omega, ?_⟩
    refine h ⟨a, b, c, 1 + p, 1 + q, fee, least, none⟩ st8 rfl rfl rfl ⟨ha, hb, hc, ?_, ?_, hfee, hle, ?_⟩ (hs8.mono (by omega))
    · exact ⟨by show 1 ≤ 1 + p; omega, by show 1 + p ≤ 9; omega⟩
    · exact ⟨by show 1 ≤ 1 + q; omega, by show 1 + q ≤ 9; omega⟩
    · intro m hm
      cases hm
/-! ### checks -/
def inB (lo hi a : Int) : Bool := decide (lo ≤ a) && decide (a ≤ hi)
set_option maxHeartbeats 4000000 in
theorem eq_is_integer {n : Nat} {a lo hi : Int} {st : List MO} : m_is_integer n [.int a, .int lo, .int hi] st = .ok (.bl (inB lo hi a)) st := by
  refine OkFx.eq ?_
  unfold m_is_integer
  refine okF_fnF rfl ?_
  unfold b_is_integer inB
  walk_at "st"
  by_cases h : lo ≤ a <;> simp [h, rtK]
set_option maxHeartbeats 4000000 in
theorem eq_need_name {n : Nat} {x : Str} {st : List MO} (h : Nm x) : m_need_name n [.str x] st = .ok .non st := by
  refine OkFx.eq ?_
  unfold m_need_name
  refine okF_fnF rfl ?_
  unfold b_need_name
  walk_at "st"
  rw [eq_is_name (by have := h.le; omega)]
  walk_at "st"
  rw [nameB_iff.mpr h]
  simp [rtK]
set_option maxHeartbeats 4000000 in
theorem eq_need_integer {n : Nat} {a lo hi : Int} {st : List MO} (h : lo ≤ a ∧ a ≤ hi) : m_need_integer n [.int a, .int lo, .int hi] st = .ok .non st := by
  refine OkFx.eq ?_
  unfold m_need_integer
  refine okF_fnF rfl ?_
  unfold b_need_integer
  walk_at "st"
  rw [eq_is_integer]
  walk_at "st"
  simp [inB, h.1, h.2, rtK]
set_option maxHeartbeats 4000000 in
theorem eq_is_rate {n : Nat} {p q : Int} {st : List MO} (hp : 1 ≤ p ∧ p ≤ 9) (hq : 1 ≤ q ∧ q ≤ 9) : m_is_rate n [.tup [.int p, .int q]] st = .ok (.bl true) st := by
  have hz : sizeLine = 16777216 := sizeLine_eq
  refine OkFx.eq ?_
  unfold m_is_rate
  refine okF_fnF rfl ?_
  unfold b_is_rate
  walk_at "st"
  simp
  walk_at "st"
  refine ok_lcT (as := [p, q]) PV.int (fun _ => true) (fun _ => PV.bl true) rfl (by simp) (by rw [hz]; simp) (fun _ => rfl) (fun c hc => ?_) (fun c hc _ => ?_) ?_
  · walk_at "st"
  · walk_at "st"
    rw [eq_is_integer]
    walk_at "st"
    simp only [List.mem_cons, List.not_mem_nil, or_false] at hc
    rcases hc with rfl | rfl <;> simp [inB, hp, hq]
  · rw [filter_true]
    refine ok_allM.mpr ?_
    simp [rtK]
/-! ### offices made -/
def isOff (c : Str) : Prop := c = "Office" ∨ c = "CappedOffice"
theorem isOff.mem {c : Str} (h : isOff c) : c ∈ (["Office", "CappedOffice"] : List Str) := by
  rcases h with rfl | rfl <;> decide +kernel
theorem putKV_new {f : Str} {v : PV} : ∀ {ks : List Str} {vs : List PV}, f ∉ ks → ks.length = vs.length → putKV f v ks vs = (ks ++ [f], vs ++ [v])
  | [], [], _, _ => rfl
  | k :: ks, w :: vs, h, hl => by
    have h1 : ¬ k = f := fun e => h (by rw [e]; exact List.mem_cons_self)
    have ih := putKV_new (f := f) (v := v) (ks := ks) (vs := vs) (fun m => h (List.mem_cons_of_mem _ m)) (by simpa using hl)
    unfold putKV
    rw [if_neg h1, ih]
    rfl
  | [], _ :: _, _, hl => by cases hl
  | _ :: _, [], _, hl => by cases hl
theorem pk1 {v : PV} : putKV "name" v [] [] = ((["name"] : List Str), ([v] : List PV)) := rfl
theorem pk2 {a v : PV} : putKV "own_ends" v ["name"] [a] = ((["name", "own_ends"] : List Str), ([a, v] : List PV)) := putKV_new (by decide +kernel) rfl
theorem pk3 {a b v : PV} : putKV "own_rate" v ["name", "own_ends"] [a, b] = ((["name", "own_ends", "own_rate"] : List Str), ([a, b, v] : List PV)) := putKV_new (by decide +kernel) rfl
theorem pk4 {a b c v : PV} : putKV "own_fee" v ["name", "own_ends", "own_rate"] [a, b, c] = ((["name", "own_ends", "own_rate", "own_fee"] : List Str), ([a, b, c, v] : List PV)) := putKV_new (by decide +kernel) rfl
theorem pk5 {a b c d v : PV} : putKV "own_least" v ["name", "own_ends", "own_rate", "own_fee"] [a, b, c, d] = (KS5, [a, b, c, d, v]) := putKV_new (by decide +kernel) rfl
theorem pk6 {a b c d e v : PV} : putKV "own_most" v KS5 [a, b, c, d, e] = (KS6, [a, b, c, d, e, v]) := putKV_new (by decide +kernel) rfl
set_option maxHeartbeats 4000000 in
theorem eq_Office_init {n : Nat} {c : Str} {o : OfV} {st : List MO} (hc : isOff c) (h : o.Wf) : m_Office_init n [.hnd st.length, .str o.nm, .str o.src, .str o.dst, .tup [.int o.p, .int o.q], .int o.fee, .int o.least] (mkS st c [] []) = .ok .non (mkS st c KS5 o.vs5) := by
  have hz : sizeLine = 16777216 := sizeLine_eq
  refine OkFx.eq ?_
  unfold m_Office_init
  refine okF_fnF rfl ?_
  unfold b_Office_init
  refine ok_seq ?_
  walk_at "sx"
  refine ⟨by omega, ?_⟩
  refine ok_for (fun j s => ∃ e7, s = ⟨[some (SV.val (PV.hnd st.length)), some (SV.val (PV.str o.nm)), some (SV.val (PV.str o.src)), some (SV.val (PV.str o.dst)), some (SV.val (PV.tup [.int o.p, .int o.q])), some (SV.val (PV.int o.fee)), some (SV.val (PV.int o.least)), e7], mkS st c [] []⟩) ⟨none, rfl⟩ ?_ ?_
  · rintro j x s hx ⟨e7, rfl⟩
    have hm := List.mem_of_getElem? hx
    obtain ⟨y, rfl, hy⟩ : ∃ y : Str, x = .str y ∧ Nm y := by
      simp only [List.mem_cons, List.not_mem_nil, or_false] at hm
      rcases hm with rfl | rfl | rfl
      · exact ⟨_, rfl, h.nm⟩
      · exact ⟨_, rfl, h.src⟩
      · exact ⟨_, rfl, h.dst⟩
    walk_at "st"
    rw [eq_need_name hy]
    walk_at "st"
    exact ⟨_, rfl⟩
  rintro s ⟨e7, rfl⟩
  walk_at "st"
  rw [eq_is_rate h.p h.q]
  walk_at "st"
  refine ⟨⟨hc.mem, rfl⟩, ?_⟩
  rw [eq_need_integer h.fee]
  walk_at "st"
  refine ⟨⟨hc.mem, rfl⟩, ?_⟩
  rw [eq_need_integer h.least]
  walk_at "st"
  simp only [pk1, pk2, pk3, pk4, pk5, List.length_cons, List.length_nil, hc.mem, true_and]
  refine ⟨by decide, by omega, ?_⟩
  walk_at "st"
  trivial
end Lw
/-! A4: offices made and asked. -/
namespace Lw
open PySem Dn
open L2 hiding bin
local macro_rules | `(tactic| walk_at "st") => `(tactic| try simp only [ok_ret, ok_bnd, ok_bin, ok_var, varK_val, varK_own, pv_val, pv_own, ok_asB, asBK_bl, ok_andT, ok_orT, ok_notT, ok_iteT, ok_andV, ok_notV, blK_bl,
  ok_argN, ok_argC, ok_fits, ok_tupM, ok_lstM, ok_parN, ok_parS, intK_int, ok_slM, lstK_lst, ok_joinM, strK_str, ok_itemsM, ok_rngM, ok_seqM, seqK_nx, seqK_rt, seqK_ro, seqK_bk, seqK_ct, ok_ifM, ok_retM, ok_slO, ok_dropM, ok_skipM, ok_asgM, ok_par2, ok_par2VO, ok_par3,
  ok_callM, rtK_rt, rtK_ro, rtK_nx, ok_loopM, ok_lcM, ok_dispM, ok_prsN, ok_prsC, ok_hget0, getK_some, ok_hputM, putK0, pc, pb, pl, ppb, ppl, plen, ok_add, ok_addS, ok_addT, ok_addL, ok_sub, ok_mul, ok_ixL, ok_ixT, ok_unp, unpK_tup, ok_set0, ok_setC, ok_app, flK_nx, flK_ct, flK_bk, flK_rt, flK_ro, sl_L, sl_T, sl_S, it_L, it_T, wip, ok_div, ok_mod, ok_pow, ok_rep, ok_ord, ok_fInt, ok_fAbs, ok_lenL, ok_lenT, ok_lenS, ok_fListL, ok_fListT, ok_fTupleL, ok_fTupleT, ok_eqI, ok_eqB, ok_eqS,
  okF_ok, okF_exc, ok_runM, ok_appA, ok_len1, ok_argS, starK_tup, starK_lst, ok_chain, isNonB_non, isNonB_int, isNonB_bl, isNonB_str, isNonB_tup, isNonB_lst, isNonB_obj, ok_isN, ok_max, ok_min, isi_int_int, isi_int_bl, isi_int_non, isi_int_str, isi_int_tup, isi_int_lst, isi_bool_int, isi_bool_bl, isi_str_str, isi_str_int, isi_str_bl, isi_str_non, isi_str_tup, isi_str_lst, isi_tuple_tup, isi_tuple_int, isi_tuple_bl, isi_tuple_non, isi_tuple_str, isi_tuple_lst,
  ok_conM, ok_fputM, fputK_new, conV_new, ok_makeM, ok_methM, ok_insM, ok_raise,
  List.map_cons, List.map_nil, List.replicate_succ, List.replicate_zero, List.cons_append, List.nil_append, List.append_nil, List.getElem?_cons_zero, List.getElem?_cons_succ, List.set_cons_zero, List.set_cons_succ, Nat.reduceSub, decide_eq_true_eq, if_true, if_false, Bool.false_eq_true, Bool.not_true, Bool.not_false, beq_self_eq_true, Bool.true_eq_false, bne_self_eq_false, Bool.bne_true, Bool.bne_false, Nat.zero_add, Nat.reduceAdd, true_and, and_true, reduceCtorEq, List.length_cons, List.length_nil])
local macro_rules | `(tactic| walk_at "sx") => `(tactic| try simp only [ok_ret, ok_bnd, ok_bin, ok_var, varK_val, varK_own, pv_val, pv_own, ok_asB, asBK_bl, ok_andT, ok_orT, ok_notT, ok_iteT, ok_andV, ok_notV, blK_bl,
  ok_argN, ok_argC, ok_fits, ok_tupM, ok_lstM, ok_parN, ok_parS, intK_int, ok_slM, lstK_lst, ok_joinM, strK_str, ok_itemsM, ok_rngM, seqK_nx, seqK_rt, seqK_ro, seqK_bk, seqK_ct, ok_ifM, ok_retM, ok_slO, ok_dropM, ok_skipM, ok_asgM, ok_par2, ok_par2VO, ok_par3,
  ok_callM, rtK_rt, rtK_ro, rtK_nx, ok_loopM, ok_lcM, ok_dispM, ok_prsN, ok_prsC, ok_hget0, getK_some, ok_hputM, putK0, pc, pb, pl, ppb, ppl, plen, ok_add, ok_addS, ok_addT, ok_addL, ok_sub, ok_mul, ok_ixL, ok_ixT, ok_unp, unpK_tup, ok_set0, ok_setC, ok_app, flK_nx, flK_ct, flK_bk, flK_rt, flK_ro, sl_L, sl_T, sl_S, it_L, it_T, wip, ok_div, ok_mod, ok_pow, ok_rep, ok_ord, ok_fInt, ok_fAbs, ok_lenL, ok_lenT, ok_lenS, ok_fListL, ok_fListT, ok_fTupleL, ok_fTupleT, ok_eqI, ok_eqB, ok_eqS,
  okF_ok, okF_exc, ok_runM, ok_appA, ok_len1, ok_argS, starK_tup, starK_lst, ok_chain, isNonB_non, isNonB_int, isNonB_bl, isNonB_str, isNonB_tup, isNonB_lst, isNonB_obj, ok_isN, ok_max, ok_min, isi_int_int, isi_int_bl, isi_int_non, isi_int_str, isi_int_tup, isi_int_lst, isi_bool_int, isi_bool_bl, isi_str_str, isi_str_int, isi_str_bl, isi_str_non, isi_str_tup, isi_str_lst, isi_tuple_tup, isi_tuple_int, isi_tuple_bl, isi_tuple_non, isi_tuple_str, isi_tuple_lst,
  ok_conM, ok_fputM, fputK_new, conV_new, ok_makeM, ok_methM, ok_insM, ok_raise,
  List.map_cons, List.map_nil, List.replicate_succ, List.replicate_zero, List.cons_append, List.nil_append, List.append_nil, List.getElem?_cons_zero, List.getElem?_cons_succ, List.set_cons_zero, List.set_cons_succ, Nat.reduceSub, decide_eq_true_eq, if_true, if_false, Bool.false_eq_true, Bool.not_true, Bool.not_false, beq_self_eq_true, Bool.true_eq_false, bne_self_eq_false, Bool.bne_true, Bool.bne_false, Nat.zero_add, Nat.reduceAdd, true_and, and_true, reduceCtorEq, List.length_cons, List.length_nil])
set_option maxHeartbeats 4000000 in
theorem eq_Capped_init {n : Nat} {o : OfV} {m : Int} {st : List MO} (h : o.Wf) (hm : o.most = some m) : m_CappedOffice_init n [.hnd st.length, .str o.nm, .str o.src, .str o.dst, .tup [.int o.p, .int o.q], .int m, .int o.fee, .int o.least] (mkS st "CappedOffice" [] []) = .ok .non (mkS st "CappedOffice" KS6 (o.vs6 m)) := by
  have hz : sizeLine = 16777216 := sizeLine_eq
  refine OkFx.eq ?_
  unfold m_CappedOffice_init
  refine okF_fnF rfl ?_
  unfold b_CappedOffice_init
  refine ok_seq ?_
  walk_at "sx"
  rw [ok_sup rfl insOf_new (m := m_Office_init) rfl]
  walk_at "sx"
  rw [eq_Office_init (o := o) (.inr rfl) h]
  walk_at "st"
  refine ⟨⟨by decide +kernel, rfl⟩, ?_⟩
  rw [eq_need_integer (h.most m hm)]
  walk_at "st"
  simp only [pk6, List.length_cons, List.length_nil]
  refine ⟨⟨by decide +kernel, by decide⟩, trivial⟩
theorem OfV.row6 {o : OfV} : o.row = .tup [.str o.nm, .str o.src, .str o.dst, .tup [.int o.p, .int o.q], .int o.fee, .int o.least, o.mostV] := rfl
theorem mostV_none {o : OfV} (h : o.most = none) : o.mostV = .non := by unfold OfV.mostV; rw [h]
theorem mostV_some {o : OfV} {m : Int} (h : o.most = some m) : o.mostV = .int m := by unfold OfV.mostV; rw [h]
theorem ix_row {o : OfV} {k : Int} {v : PV} {s : S} {E : PV → S → Prop} {Q : PV → S → Prop} (h : L2.atI [.str o.nm, .str o.src, .str o.dst, .tup [.int o.p, .int o.q], .int o.fee, .int o.least, o.mostV] k = some v) : Okx E (lft (ixP o.row (.int k))) s Q ↔ Q v s := by
  rw [ok_lft]
  show (∃ a, L2.atI _ k = some a ∧ Q a s) ↔ _
  rw [h]
  simp
section
variable {o : OfV} {s : S} {E : PV → S → Prop} {Q : PV → S → Prop}
theorem row0 : Okx E (lft (ixP o.row (.int 0))) s Q ↔ Q (.str o.nm) s := ix_row rfl
theorem row1 : Okx E (lft (ixP o.row (.int 1))) s Q ↔ Q (.str o.src) s := ix_row rfl
theorem row2 : Okx E (lft (ixP o.row (.int 2))) s Q ↔ Q (.str o.dst) s := ix_row rfl
theorem row3 : Okx E (lft (ixP o.row (.int 3))) s Q ↔ Q (.tup [.int o.p, .int o.q]) s := ix_row rfl
theorem row4 : Okx E (lft (ixP o.row (.int 4))) s Q ↔ Q (.int o.fee) s := ix_row rfl
theorem row5 : Okx E (lft (ixP o.row (.int 5))) s Q ↔ Q (.int o.least) s := ix_row rfl
theorem row6 : Okx E (lft (ixP o.row (.int 6))) s Q ↔ Q o.mostV s := ix_row rfl
end
local macro_rules | `(tactic| walk_at "st") => `(tactic| try simp only [ok_ret, ok_bnd, ok_bin, ok_var, varK_val, varK_own, pv_val, pv_own, ok_asB, asBK_bl, ok_andT, ok_orT, ok_notT, ok_iteT, ok_andV, ok_notV, blK_bl,
  ok_argN, ok_argC, ok_fits, ok_tupM, ok_lstM, ok_parN, ok_parS, intK_int, ok_slM, lstK_lst, ok_joinM, strK_str, ok_itemsM, ok_rngM, ok_seqM, seqK_nx, seqK_rt, seqK_ro, seqK_bk, seqK_ct, ok_ifM, ok_retM, ok_slO, ok_dropM, ok_skipM, ok_asgM, ok_par2, ok_par2VO, ok_par3,
  ok_callM, rtK_rt, rtK_ro, rtK_nx, ok_loopM, ok_lcM, ok_dispM, ok_prsN, ok_prsC, ok_hget0, getK_some, ok_hputM, putK0, pc, pb, pl, ppb, ppl, plen, ok_add, ok_addS, ok_addT, ok_addL, ok_sub, ok_mul, ok_ixL, ok_ixT, ok_unp, unpK_tup, ok_set0, ok_setC, ok_app, flK_nx, flK_ct, flK_bk, flK_rt, flK_ro, sl_L, sl_T, sl_S, it_L, it_T, wip, ok_div, ok_mod, ok_pow, ok_rep, ok_ord, ok_fInt, ok_fAbs, ok_lenL, ok_lenT, ok_lenS, ok_fListL, ok_fListT, ok_fTupleL, ok_fTupleT, ok_eqI, ok_eqB, ok_eqS,
  okF_ok, okF_exc, ok_runM, ok_appA, ok_len1, ok_argS, starK_tup, starK_lst, ok_chain, isNonB_non, isNonB_int, isNonB_bl, isNonB_str, isNonB_tup, isNonB_lst, isNonB_obj, ok_isN, ok_max, ok_min, isi_int_int, isi_int_bl, isi_int_non, isi_int_str, isi_int_tup, isi_int_lst, isi_bool_int, isi_bool_bl, isi_str_str, isi_str_int, isi_str_bl, isi_str_non, isi_str_tup, isi_str_lst, isi_tuple_tup, isi_tuple_int, isi_tuple_bl, isi_tuple_non, isi_tuple_str, isi_tuple_lst,
  ok_conM, ok_fputM, fputK_new, conV_new, ok_makeM, ok_methM, ok_insM, ok_raise,
  List.map_cons, List.map_nil, List.replicate_succ, List.replicate_zero, List.cons_append, List.nil_append, List.append_nil, List.getElem?_cons_zero, List.getElem?_cons_succ, List.set_cons_zero, List.set_cons_succ, Nat.reduceSub, decide_eq_true_eq, if_true, if_false, Bool.false_eq_true, Bool.not_true, Bool.not_false, beq_self_eq_true, Bool.true_eq_false, bne_self_eq_false, Bool.bne_true, Bool.bne_false, Nat.zero_add, Nat.reduceAdd, true_and, and_true, reduceCtorEq, List.length_cons, List.length_nil, row0, row1, row2, row3, row4, row5, row6])
set_option maxHeartbeats 4000000 in
theorem eq_made {n : Nat} {o : OfV} {st : List MO} (h : o.Wf) : m_law_made n [o.row] st = .ok o.pv (st ++ [.gone, .gone]) := by
  refine OkFx.eq ?_
  unfold m_law_made
  refine okF_fnF rfl ?_
  unfold b_law_made
  walk_at "st"
  cases hm : o.most with
  | none =>
    rw [mostV_none hm, OfV.pv_none hm]
    walk_at "st"
    rw [ok_made (eq_Office_init (.inl rfl) h)]
    trivial
  | some m =>
    rw [mostV_some hm, OfV.pv_some hm]
    walk_at "st"
    rw [ok_made (eq_Capped_init h hm)]
    trivial
/-! ### fields -/
section
variable {o : OfV} {s : S} {E : PV → S → Prop} {Q : PV → S → Prop} {cs : List Str}
theorem fld_of (hc : (["Office", "CappedOffice"] : List Str) = cs) {f : Str} {v : PV} (h5 : (KS5.zip o.vs5).lookup f = some v) (h6 : ∀ m, (KS6.zip (o.vs6 m)).lookup f = some v) : Okx E (fldM cs f o.pv) s Q ↔ Q v s := by
  refine ok_fld ?_
  subst hc
  cases hm : o.most with
  | none =>
    rw [OfV.pv_none hm]
    unfold fldV
    rw [insOf_obj]
    exact (if_pos (by decide +kernel)).trans h5
  | some m =>
    rw [OfV.pv_some hm]
    unfold fldV
    rw [insOf_obj]
    exact (if_pos (by decide +kernel)).trans (h6 m)
theorem f_name : Okx E (fldM ["Office", "CappedOffice"] "name" o.pv) s Q ↔ Q (.str o.nm) s := fld_of rfl rfl fun _ => rfl
theorem f_ends : Okx E (fldM ["Office", "CappedOffice"] "own_ends" o.pv) s Q ↔ Q (.tup [.str o.src, .str o.dst]) s := fld_of rfl rfl fun _ => rfl
theorem f_rate : Okx E (fldM ["Office", "CappedOffice"] "own_rate" o.pv) s Q ↔ Q (.tup [.int o.p, .int o.q]) s := fld_of rfl rfl fun _ => rfl
theorem f_fee : Okx E (fldM ["Office", "CappedOffice"] "own_fee" o.pv) s Q ↔ Q (.int o.fee) s := fld_of rfl rfl fun _ => rfl
theorem f_least : Okx E (fldM ["Office", "CappedOffice"] "own_least" o.pv) s Q ↔ Q (.int o.least) s := fld_of rfl rfl fun _ => rfl
theorem f_most {m : Int} (h : o.most = some m) : Okx E (fldM ["CappedOffice"] "own_most" o.pv) s Q ↔ Q (.int m) s := by
  refine ok_fld ?_
  rw [OfV.pv_some h]
  unfold fldV
  rw [insOf_obj]
  exact (if_pos (by decide +kernel)).trans rfl
end
end Lw
/-! A5: offices asked: results. -/
namespace Lw
open PySem Dn
open L2 hiding bin
local macro_rules | `(tactic| walk_at "st") => `(tactic| try simp only [ok_ret, ok_bnd, ok_bin, ok_var, varK_val, varK_own, pv_val, pv_own, ok_asB, asBK_bl, ok_andT, ok_orT, ok_notT, ok_iteT, ok_andV, ok_notV, blK_bl,
  ok_argN, ok_argC, ok_fits, ok_tupM, ok_lstM, ok_parN, ok_parS, intK_int, ok_slM, lstK_lst, ok_joinM, strK_str, ok_itemsM, ok_rngM, ok_seqM, seqK_nx, seqK_rt, seqK_ro, seqK_bk, seqK_ct, ok_ifM, ok_retM, ok_slO, ok_dropM, ok_skipM, ok_asgM, ok_par2, ok_par2VO, ok_par3,
  ok_callM, rtK_rt, rtK_ro, rtK_nx, ok_loopM, ok_lcM, ok_dispM, ok_prsN, ok_prsC, ok_hget0, getK_some, ok_hputM, putK0, pc, pb, pl, ppb, ppl, plen, ok_add, ok_addS, ok_addT, ok_addL, ok_sub, ok_mul, ok_ixL, ok_ixT, ok_unp, unpK_tup, ok_set0, ok_setC, ok_app, flK_nx, flK_ct, flK_bk, flK_rt, flK_ro, sl_L, sl_T, sl_S, it_L, it_T, wip, ok_div, ok_mod, ok_pow, ok_rep, ok_ord, ok_fInt, ok_fAbs, ok_lenL, ok_lenT, ok_lenS, ok_fListL, ok_fListT, ok_fTupleL, ok_fTupleT, ok_eqI, ok_eqB, ok_eqS,
  okF_ok, okF_exc, ok_runM, ok_appA, ok_len1, ok_argS, starK_tup, starK_lst, ok_chain, isNonB_non, isNonB_int, isNonB_bl, isNonB_str, isNonB_tup, isNonB_lst, isNonB_obj, ok_isN, ok_max, ok_min, isi_int_int, isi_int_bl, isi_int_non, isi_int_str, isi_int_tup, isi_int_lst, isi_bool_int, isi_bool_bl, isi_str_str, isi_str_int, isi_str_bl, isi_str_non, isi_str_tup, isi_str_lst, isi_tuple_tup, isi_tuple_int, isi_tuple_bl, isi_tuple_non, isi_tuple_str, isi_tuple_lst,
  ok_conM, ok_fputM, fputK_new, conV_new, ok_makeM, ok_methM, ok_insM, ok_raise,
  List.map_cons, List.map_nil, List.replicate_succ, List.replicate_zero, List.cons_append, List.nil_append, List.append_nil, List.getElem?_cons_zero, List.getElem?_cons_succ, List.set_cons_zero, List.set_cons_succ, Nat.reduceSub, decide_eq_true_eq, if_true, if_false, Bool.false_eq_true, Bool.not_true, Bool.not_false, beq_self_eq_true, Bool.true_eq_false, bne_self_eq_false, Bool.bne_true, Bool.bne_false, Nat.zero_add, Nat.reduceAdd, true_and, and_true, reduceCtorEq, List.length_cons, List.length_nil, row0, row1, row2, row3, row4, row5, row6, f_name, f_ends, f_rate, f_fee, f_least])
theorem eq_need_amount {n : Nat} {a : Int} {st : List MO} (h : 0 ≤ a ∧ a ≤ 1000000000000000000000000000000) : m_need_amount n [.int a] st = .ok .non st := by
  refine OkFx.eq ?_
  unfold m_need_amount
  refine okF_fnF rfl ?_
  unfold b_need_amount
  walk_at "st"
  rw [eq_need_integer h]
  trivial
theorem cap_lt {o : OfV} (h : o.Wf) {a : Int} : o.cap a < o.least ↔ a < o.least := by
  unfold OfV.cap
  cases hm : o.most with
  | none => exact Iff.rfl
  | some m =>
    have := (h.most m hm).1
    show min a m < o.least ↔ _
    omega
theorem res_closed {o : OfV} (h : o.Wf) {a : Int} (ha : a < o.least) : o.res a = .non := if_pos ((cap_lt h).mpr ha)
theorem res_open {o : OfV} (h : o.Wf) {a : Int} (ha : ¬ a < o.least) : o.res a = .int (o.val a) := if_neg fun z => ha ((cap_lt h).mp z)
noncomputable def OfV.fResult (o : OfV) : Fn := match o.most with
  | none => m_Office_result
  | some _ => m_CappedOffice_result
theorem o_result {n : Nat} {o : OfV} {ra : M (List PV)} : methD tm_result_2 n "result" ra o.pv = bnd ra fun ds => runM o.fResult n (o.pv :: ds) := by
  unfold OfV.fResult
  cases hm : o.most with
  | none => rw [OfV.pv_none hm]; exact methD_obj rfl rfl
  | some m => rw [OfV.pv_some hm]; exact methD_obj rfl rfl
theorem o_call {n : Nat} {o : OfV} {ra : M (List PV)} : insD ti_2 n ra o.pv = bnd ra fun ds => runM m_Office_call n (o.pv :: ds) := by
  cases hm : o.most with
  | none => rw [OfV.pv_none hm]; exact insD_obj rfl
  | some m => rw [OfV.pv_some hm]; exact insD_obj rfl
abbrev closedE (o : OfV) : PV := .obj "Closed" ["name"] [.str o.nm]
end Lw
/-! R1: routes: made, offices asked by properties. -/
namespace Lw
open PySem Dn
open L2 hiding bin
theorem ix20 {a b : PV} {s : S} {E : PV → S → Prop} {Q : PV → S → Prop} : Okx E (lft (ixP (.tup [a, b]) (.int 0))) s Q ↔ Q a s := by
  rw [ok_lft]
  exact ⟨fun ⟨_, e, q⟩ => by cases e; exact q, fun q => ⟨_, rfl, q⟩⟩
theorem ix21 {a b : PV} {s : S} {E : PV → S → Prop} {Q : PV → S → Prop} : Okx E (lft (ixP (.tup [a, b]) (.int 1))) s Q ↔ Q b s := by
  rw [ok_lft]
  exact ⟨fun ⟨_, e, q⟩ => by cases e; exact q, fun q => ⟨_, rfl, q⟩⟩
local macro_rules | `(tactic| walk_at "st") => `(tactic| try simp only [ok_ret, ok_bnd, ok_bin, ok_var, varK_val, varK_own, pv_val, pv_own, ok_asB, asBK_bl, ok_andT, ok_orT, ok_notT, ok_iteT, ok_andV, ok_notV, blK_bl,
  ok_argN, ok_argC, ok_fits, ok_tupM, ok_lstM, ok_parN, ok_parS, intK_int, ok_slM, lstK_lst, ok_joinM, strK_str, ok_itemsM, ok_rngM, ok_seqM, seqK_nx, seqK_rt, seqK_ro, seqK_bk, seqK_ct, ok_ifM, ok_retM, ok_slO, ok_dropM, ok_skipM, ok_asgM, ok_par2, ok_par2VO, ok_par3,
  ok_callM, rtK_rt, rtK_ro, rtK_nx, ok_loopM, ok_lcM, ok_dispM, ok_prsN, ok_prsC, ok_hget0, getK_some, ok_hputM, putK0, pc, pb, pl, ppb, ppl, plen, ok_add, ok_addS, ok_addT, ok_addL, ok_sub, ok_mul, ok_ixL, ok_ixT, ok_unp, unpK_tup, ok_set0, ok_setC, ok_app, flK_nx, flK_ct, flK_bk, flK_rt, flK_ro, sl_L, sl_T, sl_S, it_L, it_T, wip, ok_div, ok_mod, ok_pow, ok_rep, ok_ord, ok_fInt, ok_fAbs, ok_lenL, ok_lenT, ok_lenS, ok_fListL, ok_fListT, ok_fTupleL, ok_fTupleT, ok_eqI, ok_eqB, ok_eqS,
  okF_ok, okF_exc, ok_runM, ok_appA, ok_len1, ok_argS, starK_tup, starK_lst, ok_chain, isNonB_non, isNonB_int, isNonB_bl, isNonB_str, isNonB_tup, isNonB_lst, isNonB_obj, ok_isN, ok_max, ok_min, isi_int_int, isi_int_bl, isi_int_non, isi_int_str, isi_int_tup, isi_int_lst, isi_bool_int, isi_bool_bl, isi_str_str, isi_str_int, isi_str_bl, isi_str_non, isi_str_tup, isi_str_lst, isi_tuple_tup, isi_tuple_int, isi_tuple_bl, isi_tuple_non, isi_tuple_str, isi_tuple_lst,
  ok_conM, ok_fputM, fputK_new, conV_new, ok_makeM, ok_methM, ok_insM, ok_raise,
  List.map_cons, List.map_nil, List.replicate_succ, List.replicate_zero, List.cons_append, List.nil_append, List.append_nil, List.getElem?_cons_zero, List.getElem?_cons_succ, List.set_cons_zero, List.set_cons_succ, Nat.reduceSub, decide_eq_true_eq, if_true, if_false, Bool.false_eq_true, Bool.not_true, Bool.not_false, beq_self_eq_true, Bool.true_eq_false, bne_self_eq_false, Bool.bne_true, Bool.bne_false, Nat.zero_add, Nat.reduceAdd, true_and, and_true, reduceCtorEq, List.length_cons, List.length_nil, f_name, f_ends, f_rate, f_fee, f_least, ix20, ix21])
section
variable {n : Nat} {o : OfV} {st : List MO} {s : S} {E : PV → S → Prop} {Q : PV → S → Prop}
theorem eq_p_source : m_Office_source n [o.pv] st = .ok (.str o.src) st := by
  refine OkFx.eq ?_
  unfold m_Office_source
  refine okF_fnF rfl ?_
  unfold b_Office_source
  walk_at "st"
  exact ⟨_, rfl, rfl⟩
theorem eq_p_goal : m_Office_goal n [o.pv] st = .ok (.str o.dst) st := by
  refine OkFx.eq ?_
  unfold m_Office_goal
  refine okF_fnF rfl ?_
  unfold b_Office_goal
  walk_at "st"
  exact ⟨_, rfl, rfl⟩
theorem prp {tab : List (Str × Fn)} {m0 m1 : Fn} {r : PV} (h0 : tab.lookup (Str.ofString "Office") = some m0) (h1 : tab.lookup (Str.ofString "CappedOffice") = some m1) (h : o.most = none → ∀ st, m0 n [o.pv] st = .ok r st) (h' : ∀ k, o.most = some k → ∀ st, m1 n [o.pv] st = .ok r st) : Okx E (propM tab n o.pv) s Q ↔ Q r s := by
  cases hm : o.most with
  | none =>
    have h := h hm s.sto
    rw [OfV.pv_none hm] at h ⊢
    exact propM_obj h0 h
  | some k =>
    have h := h' k hm s.sto
    rw [OfV.pv_some hm] at h ⊢
    exact propM_obj h1 h
theorem p_source : Okx E (propM tp_source n o.pv) s Q ↔ Q (.str o.src) s := prp rfl rfl (fun _ _ => eq_p_source) (fun _ _ _ => eq_p_source)
theorem p_goal : Okx E (propM tp_goal n o.pv) s Q ↔ Q (.str o.dst) s := prp rfl rfl (fun _ _ => eq_p_goal) (fun _ _ _ => eq_p_goal)
theorem iso_off {tab : List (Str × Bool)} {b : Bool} (h0 : tab.lookup (Str.ofString "Office") = some b) (h1 : tab.lookup (Str.ofString "CappedOffice") = some b) : Okx E (isoM tab o.pv) s Q ↔ Q (.bl b) s := by
  unfold Okx isoM
  cases hm : o.most with
  | none => rw [OfV.pv_none hm]; simp only [insOf_obj, h0]
  | some k => rw [OfV.pv_some hm]; simp only [insOf_obj, h1]
theorem iso_offR : Okx E (isoM [("Office", true), ("CappedOffice", true), ("Route", false)] o.pv) s Q ↔ Q (.bl true) s := iso_off rfl rfl
end
/-- where a route through these offices ends -/
def endO : Str → List OfV → Str
  | c, [] => c
  | _, o :: r => endO o.dst r
/-- each office begins where the one before ends -/
def Jn : Str → List OfV → Prop
  | _, [] => True
  | c, o :: r => o.src = c ∧ Jn o.dst r
theorem Jn.app : ∀ {c : Str} {os ps : List OfV}, Jn c (os ++ ps) ↔ Jn c os ∧ Jn (endO c os) ps
  | c, [], ps => by simp [Jn, endO]
  | c, o :: os, ps => by
    simp only [List.cons_append, Jn, endO]
    rw [Jn.app (c := o.dst) (os := os) (ps := ps), and_assoc]
theorem endO_app : ∀ {c : Str} {os ps : List OfV}, endO c (os ++ ps) = endO (endO c os) ps
  | c, [], ps => rfl
  | c, o :: os, ps => by
    simp only [List.cons_append, endO]
    exact endO_app
theorem Jn.take {c : Str} {os : List OfV} (h : Jn c os) (k : Nat) : Jn c (os.take k) := by
  have : Jn c (os.take k ++ os.drop k) := by rw [List.take_append_drop]; exact h
  exact (Jn.app.mp this).1
theorem Jn.get {c : Str} {os : List OfV} {k : Nat} {o : OfV} (h : Jn c os) (e : os[k]? = some o) : o.src = endO c (os.take k) ∧ endO c (os.take (k + 1)) = o.dst := by
  have hk := (List.getElem?_eq_some_iff.mp e).1
  have e2 : os.take (k + 1) = os.take k ++ [o] := by rw [List.take_add_one, e]; rfl
  have h2 : Jn c (os.take k ++ [o]) := by rw [← e2]; exact h.take _
  rw [e2, endO_app]
  exact ⟨(Jn.app.mp h2).2.1, rfl⟩
abbrev KSR : List Str := ["own_start", "own_end", "own_offices"]
abbrev vsR (c : Str) (os : List OfV) : List PV := [.str c, .str (endO c os), .tup (os.map OfV.pv)]
/-- a route -/
def Rt (c : Str) (os : List OfV) : PV := .obj "Route" KSR (vsR c os)
structure RtOk (c : Str) (os : List OfV) : Prop where
  nm : Nm c
  wf : ∀ o ∈ os, o.Wf
  jn : Jn c os
theorem end_nm {c : Str} (hc : Nm c) : ∀ {os : List OfV}, (∀ o ∈ os, o.Wf) → Nm (endO c os)
  | [], _ => hc
  | o :: os, h => end_nm (h o List.mem_cons_self).dst fun p hp => h p (List.mem_cons_of_mem _ hp)
theorem RtOk.end {c : Str} {os : List OfV} (h : RtOk c os) : Nm (endO c os) := end_nm h.nm h.wf
theorem rk1 {v : PV} : putKV "own_start" v [] [] = ((["own_start"] : List Str), ([v] : List PV)) := rfl
theorem rk2 {a v : PV} : putKV "own_end" v ["own_start"] [a] = ((["own_start", "own_end"] : List Str), ([a, v] : List PV)) := putKV_new (by decide +kernel) rfl
theorem rk3 {a b v : PV} : putKV "own_offices" v ["own_start", "own_end"] [a, b] = (KSR, ([a, b, v] : List PV)) := putKV_new (by decide +kernel) rfl
local macro_rules | `(tactic| walk_at "st") => `(tactic| try simp only [ok_ret, ok_bnd, ok_bin, ok_var, varK_val, varK_own, pv_val, pv_own, ok_asB, asBK_bl, ok_andT, ok_orT, ok_notT, ok_iteT, ok_andV, ok_notV, blK_bl,
  ok_argN, ok_argC, ok_fits, ok_tupM, ok_lstM, ok_parN, ok_parS, intK_int, ok_slM, lstK_lst, ok_joinM, strK_str, ok_itemsM, ok_rngM, ok_seqM, seqK_nx, seqK_rt, seqK_ro, seqK_bk, seqK_ct, ok_ifM, ok_retM, ok_slO, ok_dropM, ok_skipM, ok_asgM, ok_par2, ok_par2VO, ok_par3,
  ok_callM, rtK_rt, rtK_ro, rtK_nx, ok_loopM, ok_lcM, ok_dispM, ok_prsN, ok_prsC, ok_hget0, getK_some, ok_hputM, putK0, pc, pb, pl, ppb, ppl, plen, ok_add, ok_addS, ok_addT, ok_addL, ok_sub, ok_mul, ok_ixL, ok_ixT, ok_unp, unpK_tup, ok_set0, ok_setC, ok_app, flK_nx, flK_ct, flK_bk, flK_rt, flK_ro, sl_L, sl_T, sl_S, it_L, it_T, wip, ok_div, ok_mod, ok_pow, ok_rep, ok_ord, ok_fInt, ok_fAbs, ok_lenL, ok_lenT, ok_lenS, ok_fListL, ok_fListT, ok_fTupleL, ok_fTupleT, ok_eqI, ok_eqB, ok_eqS,
  okF_ok, okF_exc, ok_runM, ok_appA, ok_len1, ok_argS, starK_tup, starK_lst, ok_chain, isNonB_non, isNonB_int, isNonB_bl, isNonB_str, isNonB_tup, isNonB_lst, isNonB_obj, ok_isN, ok_max, ok_min, isi_int_int, isi_int_bl, isi_int_non, isi_int_str, isi_int_tup, isi_int_lst, isi_bool_int, isi_bool_bl, isi_str_str, isi_str_int, isi_str_bl, isi_str_non, isi_str_tup, isi_str_lst, isi_tuple_tup, isi_tuple_int, isi_tuple_bl, isi_tuple_non, isi_tuple_str, isi_tuple_lst,
  ok_conM, ok_fputM, fputK_new, conV_new, ok_makeM, ok_methM, ok_insM, ok_raise,
  List.map_cons, List.map_nil, List.replicate_succ, List.replicate_zero, List.cons_append, List.nil_append, List.append_nil, List.getElem?_cons_zero, List.getElem?_cons_succ, List.set_cons_zero, List.set_cons_succ, Nat.reduceSub, decide_eq_true_eq, if_true, if_false, Bool.false_eq_true, Bool.not_true, Bool.not_false, beq_self_eq_true, Bool.true_eq_false, bne_self_eq_false, Bool.bne_true, Bool.bne_false, Nat.zero_add, Nat.reduceAdd, true_and, and_true, reduceCtorEq, List.length_cons, List.length_nil, f_name, f_ends, f_rate, f_fee, f_least, ix20, ix21, p_source, p_goal, iso_offR, ok_loopU, ok_enumM, en_L, en_T])
local macro_rules | `(tactic| walk_at "sx") => `(tactic| try simp only [ok_ret, ok_bnd, ok_bin, ok_var, varK_val, varK_own, pv_val, pv_own, ok_asB, asBK_bl, ok_andT, ok_orT, ok_notT, ok_iteT, ok_andV, ok_notV, blK_bl,
  ok_argN, ok_argC, ok_fits, ok_tupM, ok_lstM, ok_parN, ok_parS, intK_int, ok_slM, lstK_lst, ok_joinM, strK_str, ok_itemsM, ok_rngM, seqK_nx, seqK_rt, seqK_ro, seqK_bk, seqK_ct, ok_ifM, ok_retM, ok_slO, ok_dropM, ok_skipM, ok_asgM, ok_par2, ok_par2VO, ok_par3,
  ok_callM, rtK_rt, rtK_ro, rtK_nx, ok_loopM, ok_lcM, ok_dispM, ok_prsN, ok_prsC, ok_hget0, getK_some, ok_hputM, putK0, pc, pb, pl, ppb, ppl, plen, ok_add, ok_addS, ok_addT, ok_addL, ok_sub, ok_mul, ok_ixL, ok_ixT, ok_unp, unpK_tup, ok_set0, ok_setC, ok_app, flK_nx, flK_ct, flK_bk, flK_rt, flK_ro, sl_L, sl_T, sl_S, it_L, it_T, wip, ok_div, ok_mod, ok_pow, ok_rep, ok_ord, ok_fInt, ok_fAbs, ok_lenL, ok_lenT, ok_lenS, ok_fListL, ok_fListT, ok_fTupleL, ok_fTupleT, ok_eqI, ok_eqB, ok_eqS,
  okF_ok, okF_exc, ok_runM, ok_appA, ok_len1, ok_argS, starK_tup, starK_lst, ok_chain, isNonB_non, isNonB_int, isNonB_bl, isNonB_str, isNonB_tup, isNonB_lst, isNonB_obj, ok_isN, ok_max, ok_min, isi_int_int, isi_int_bl, isi_int_non, isi_int_str, isi_int_tup, isi_int_lst, isi_bool_int, isi_bool_bl, isi_str_str, isi_str_int, isi_str_bl, isi_str_non, isi_str_tup, isi_str_lst, isi_tuple_tup, isi_tuple_int, isi_tuple_bl, isi_tuple_non, isi_tuple_str, isi_tuple_lst,
  ok_conM, ok_fputM, fputK_new, conV_new, ok_makeM, ok_methM, ok_insM, ok_raise,
  List.map_cons, List.map_nil, List.replicate_succ, List.replicate_zero, List.cons_append, List.nil_append, List.append_nil, List.getElem?_cons_zero, List.getElem?_cons_succ, List.set_cons_zero, List.set_cons_succ, Nat.reduceSub, decide_eq_true_eq, if_true, if_false, Bool.false_eq_true, Bool.not_true, Bool.not_false, beq_self_eq_true, Bool.true_eq_false, bne_self_eq_false, Bool.bne_true, Bool.bne_false, Nat.zero_add, Nat.reduceAdd, true_and, and_true, reduceCtorEq, List.length_cons, List.length_nil, f_name, f_ends, f_rate, f_fee, f_least, ix20, ix21, p_source, p_goal, iso_offR, ok_loopU, ok_enumM, en_L, en_T])
set_option maxHeartbeats 4000000 in
theorem eq_Route_init {n : Nat} {c : Str} {os : List OfV} {st : List MO} (h : RtOk c os) (hl : os.length ≤ 1000) : m_Route_init n [.hnd st.length, .str c, .tup (os.map OfV.pv)] (mkS st "Route" [] []) = .ok .non (mkS st "Route" KSR (vsR c os)) := by
  have hz : sizeLine = 16777216 := sizeLine_eq
  refine OkFx.eq ?_
  unfold m_Route_init
  refine okF_fnF rfl ?_
  unfold b_Route_init
  refine ok_seq ?_
  walk_at "sx"
  rw [eq_need_name h.nm]
  walk_at "sx"
  refine ok_seq ?_
  walk_at "sx"
  refine ok_for (fun j s => ∃ e3, s = ⟨[some (SV.val (PV.hnd st.length)), some (SV.val (PV.str c)), some (SV.val (PV.tup (os.map OfV.pv))), e3, none, none], mkS st "Route" [] []⟩) ⟨none, rfl⟩ ?_ ?_
  · rintro j x s hx ⟨e3, rfl⟩
    rw [List.getElem?_map] at hx
    obtain ⟨o, ho, rfl⟩ := Option.map_eq_some_iff.mp hx
    walk_at "st"
    exact ⟨_, rfl⟩
  rintro s ⟨e3, rfl⟩
  walk_at "sx"
  refine ok_seq ?_
  walk_at "sx"
  refine ok_seq ?_
  walk_at "sx"
  refine ok_for2 (fun j s => j ≤ os.length ∧ ∃ e3 e5, s = ⟨[some (SV.val (PV.hnd st.length)), some (SV.val (PV.str c)), some (SV.val (PV.tup (os.map OfV.pv))), e3, some (SV.val (PV.str (endO c (os.take j)))), e5], mkS st "Route" [] []⟩) ⟨Nat.zero_le _, _, none, by rw [List.take_zero]; rfl⟩ ?_ ?_
  · rintro j x s hx ⟨hj, e3, e5, rfl⟩
    have hj2 : j < os.length := by
      have := (List.getElem?_eq_some_iff.mp hx).1
      rw [enumL_length, List.length_map] at this
      exact this
    have ho : os[j]? = some os[j] := List.getElem?_eq_getElem hj2
    have hx2 := enumL_get (os.map OfV.pv) 0 j (os[j]).pv (by rw [List.getElem?_map, ho]; rfl)
    rw [hx2] at hx
    cases hx
    obtain ⟨g1, g2⟩ := h.jn.get ho
    refine ⟨_, _, rfl, ?_⟩
    walk_at "st"
    rw [g1]
    simp only [beq_self_eq_true, Bool.not_true, if_false, Bool.false_eq_true]
    walk_at "st"
    refine ⟨hj2, _, _, by rw [g2]⟩
  rintro s ⟨_, e3, e5, rfl⟩
  rw [enumL_length, List.length_map, List.take_length]
  walk_at "st"
  refine ⟨⟨by decide +kernel, rfl⟩, ?_⟩
  rw [if_neg (by simp; omega)]
  walk_at "st"
  simp only [rk1, rk2, rk3, List.length_cons, List.length_nil]
  refine ⟨⟨by decide +kernel, by decide⟩, ?_⟩
  walk_at "st"
  try simp only [rk1, rk2, rk3, List.length_cons, List.length_nil]
  trivial
end Lw
/-! R2: routes with one office more; drawn chains; routes of rows. -/
namespace Lw
open PySem Dn
open L2 hiding bin
section
variable {n : Nat} {c : Str} {os : List OfV} {st : List MO} {s : S} {E : PV → S → Prop} {Q : PV → S → Prop}
theorem g_start : Okx E (fldM ["Route"] "own_start" (Rt c os)) s Q ↔ Q (.str c) s := ok_fld (by unfold fldV Rt; rw [insOf_obj]; exact (if_pos (by decide +kernel)).trans rfl)
theorem g_end : Okx E (fldM ["Route"] "own_end" (Rt c os)) s Q ↔ Q (.str (endO c os)) s := ok_fld (by unfold fldV Rt; rw [insOf_obj]; exact (if_pos (by decide +kernel)).trans rfl)
theorem g_offs : Okx E (fldM ["Route"] "own_offices" (Rt c os)) s Q ↔ Q (.tup (os.map OfV.pv)) s := ok_fld (by unfold fldV Rt; rw [insOf_obj]; exact (if_pos (by decide +kernel)).trans rfl)
theorem ok_mkR {x : List PV} {env : Dn.Env} (h : RtOk c os) (hl : os.length ≤ 1000) (hx : x = [.str c, .tup (os.map OfV.pv)]) : Okx E (makeD "Route" m_Route_init n x) ⟨env, st⟩ Q ↔ Q (Rt c os) ⟨env, st ++ [.gone, .gone]⟩ := by
  subst hx
  exact ok_made (eq_Route_init h hl)
theorem ok_mkR' {x : List PV} {s : S} (h : RtOk c os) (hl : os.length ≤ 1000) (hx : x = [.str c, .tup (os.map OfV.pv)]) : Okx E (makeD "Route" m_Route_init n x) s Q ↔ Q (Rt c os) ⟨s.env, s.sto ++ [.gone, .gone]⟩ := ok_mkR h hl hx
end
local macro_rules | `(tactic| walk_at "st") => `(tactic| try simp only [ok_ret, ok_bnd, ok_bin, ok_var, varK_val, varK_own, pv_val, pv_own, ok_asB, asBK_bl, ok_andT, ok_orT, ok_notT, ok_iteT, ok_andV, ok_notV, blK_bl,
  ok_argN, ok_argC, ok_fits, ok_tupM, ok_lstM, ok_parN, ok_parS, intK_int, ok_slM, lstK_lst, ok_joinM, strK_str, ok_itemsM, ok_rngM, ok_seqM, seqK_nx, seqK_rt, seqK_ro, seqK_bk, seqK_ct, ok_ifM, ok_retM, ok_slO, ok_dropM, ok_skipM, ok_asgM, ok_par2, ok_par2VO, ok_par3,
  ok_callM, rtK_rt, rtK_ro, rtK_nx, ok_loopM, ok_lcM, ok_dispM, ok_prsN, ok_prsC, ok_hget0, getK_some, ok_hputM, putK0, pc, pb, pl, ppb, ppl, plen, ok_add, ok_addS, ok_addT, ok_addL, ok_sub, ok_mul, ok_ixL, ok_ixT, ok_unp, unpK_tup, ok_set0, ok_setC, ok_app, flK_nx, flK_ct, flK_bk, flK_rt, flK_ro, sl_L, sl_T, sl_S, it_L, it_T, wip, ok_div, ok_mod, ok_pow, ok_rep, ok_ord, ok_fInt, ok_fAbs, ok_lenL, ok_lenT, ok_lenS, ok_fListL, ok_fListT, ok_fTupleL, ok_fTupleT, ok_eqI, ok_eqB, ok_eqS,
  okF_ok, okF_exc, ok_runM, ok_appA, ok_len1, ok_argS, starK_tup, starK_lst, ok_chain, isNonB_non, isNonB_int, isNonB_bl, isNonB_str, isNonB_tup, isNonB_lst, isNonB_obj, ok_isN, ok_max, ok_min, isi_int_int, isi_int_bl, isi_int_non, isi_int_str, isi_int_tup, isi_int_lst, isi_bool_int, isi_bool_bl, isi_str_str, isi_str_int, isi_str_bl, isi_str_non, isi_str_tup, isi_str_lst, isi_tuple_tup, isi_tuple_int, isi_tuple_bl, isi_tuple_non, isi_tuple_str, isi_tuple_lst,
  ok_conM, ok_fputM, fputK_new, conV_new, ok_makeM, ok_methM, ok_insM, ok_raise,
  List.map_cons, List.map_nil, List.replicate_succ, List.replicate_zero, List.cons_append, List.nil_append, List.append_nil, List.getElem?_cons_zero, List.getElem?_cons_succ, List.set_cons_zero, List.set_cons_succ, Nat.reduceSub, decide_eq_true_eq, if_true, if_false, Bool.false_eq_true, Bool.not_true, Bool.not_false, beq_self_eq_true, Bool.true_eq_false, bne_self_eq_false, Bool.bne_true, Bool.bne_false, Nat.zero_add, Nat.reduceAdd, true_and, and_true, reduceCtorEq, List.length_cons, List.length_nil, f_name, f_ends, f_rate, f_fee, f_least, p_source, p_goal, iso_offR, ok_loopU, ok_enumM, en_L, en_T, g_start, g_end, g_offs, ok_starA, ok_eqL, row0, row1, row2, row3, row4, row5, row6])
local macro_rules | `(tactic| walk_at "sx") => `(tactic| try simp only [ok_ret, ok_bnd, ok_bin, ok_var, varK_val, varK_own, pv_val, pv_own, ok_asB, asBK_bl, ok_andT, ok_orT, ok_notT, ok_iteT, ok_andV, ok_notV, blK_bl,
  ok_argN, ok_argC, ok_fits, ok_tupM, ok_lstM, ok_parN, ok_parS, intK_int, ok_slM, lstK_lst, ok_joinM, strK_str, ok_itemsM, ok_rngM, seqK_nx, seqK_rt, seqK_ro, seqK_bk, seqK_ct, ok_ifM, ok_retM, ok_slO, ok_dropM, ok_skipM, ok_asgM, ok_par2, ok_par2VO, ok_par3,
  ok_callM, rtK_rt, rtK_ro, rtK_nx, ok_loopM, ok_lcM, ok_dispM, ok_prsN, ok_prsC, ok_hget0, getK_some, ok_hputM, putK0, pc, pb, pl, ppb, ppl, plen, ok_add, ok_addS, ok_addT, ok_addL, ok_sub, ok_mul, ok_ixL, ok_ixT, ok_unp, unpK_tup, ok_set0, ok_setC, ok_app, flK_nx, flK_ct, flK_bk, flK_rt, flK_ro, sl_L, sl_T, sl_S, it_L, it_T, wip, ok_div, ok_mod, ok_pow, ok_rep, ok_ord, ok_fInt, ok_fAbs, ok_lenL, ok_lenT, ok_lenS, ok_fListL, ok_fListT, ok_fTupleL, ok_fTupleT, ok_eqI, ok_eqB, ok_eqS,
  okF_ok, okF_exc, ok_runM, ok_appA, ok_len1, ok_argS, starK_tup, starK_lst, ok_chain, isNonB_non, isNonB_int, isNonB_bl, isNonB_str, isNonB_tup, isNonB_lst, isNonB_obj, ok_isN, ok_max, ok_min, isi_int_int, isi_int_bl, isi_int_non, isi_int_str, isi_int_tup, isi_int_lst, isi_bool_int, isi_bool_bl, isi_str_str, isi_str_int, isi_str_bl, isi_str_non, isi_str_tup, isi_str_lst, isi_tuple_tup, isi_tuple_int, isi_tuple_bl, isi_tuple_non, isi_tuple_str, isi_tuple_lst,
  ok_conM, ok_fputM, fputK_new, conV_new, ok_makeM, ok_methM, ok_insM, ok_raise,
  List.map_cons, List.map_nil, List.replicate_succ, List.replicate_zero, List.cons_append, List.nil_append, List.append_nil, List.getElem?_cons_zero, List.getElem?_cons_succ, List.set_cons_zero, List.set_cons_succ, Nat.reduceSub, decide_eq_true_eq, if_true, if_false, Bool.false_eq_true, Bool.not_true, Bool.not_false, beq_self_eq_true, Bool.true_eq_false, bne_self_eq_false, Bool.bne_true, Bool.bne_false, Nat.zero_add, Nat.reduceAdd, true_and, and_true, reduceCtorEq, List.length_cons, List.length_nil, f_name, f_ends, f_rate, f_fee, f_least, p_source, p_goal, iso_offR, ok_loopU, ok_enumM, en_L, en_T, g_start, g_end, g_offs, ok_starA, ok_eqL, row0, row1, row2, row3, row4, row5, row6])
set_option maxHeartbeats 4000000 in
theorem eq_Route_add {n : Nat} {c : Str} {os : List OfV} {o : OfV} {st : List MO} (h : RtOk c (os ++ [o])) (hl : os.length < 1000) : m_Route_add n [Rt c os, o.pv] st = .ok (Rt c (os ++ [o])) (st ++ [.gone, .gone]) := by
  have hz : sizeLine = 16777216 := sizeLine_eq
  have hj := (Jn.app.mp h.jn).2
  refine OkFx.eq ?_
  unfold m_Route_add
  refine okF_fnF rfl ?_
  unfold b_Route_add
  walk_at "st"
  rw [hj.1]
  refine ⟨by omega, ?_⟩
  simp only [beq_self_eq_true, Bool.not_true, if_false, Bool.false_eq_true]
  walk_at "st"
  refine ⟨⟨by simp, by simp; omega⟩, ?_⟩
  rw [ok_mkR' (c := c) (os := os ++ [o]) h (by simp; omega) (by simp)]
  exact ⟨rfl, rfl⟩
theorem names_str {ss : List Str} {v : PV} (h : v ∈ ss.map PV.str) : ∃ x ∈ ss, v = .str x := by
  obtain ⟨x, hx, rfl⟩ := List.mem_map.mp h
  exact ⟨x, hx, rfl⟩
set_option maxHeartbeats 8000000 in
theorem sp_chain {n : Nat} {B k : Int} {cells : List Int} {g st : List MO} {Q : PV → List MO → Prop} (hp : Pn cells B g st) (hB : B < 30000) (hk : 0 ≤ k ∧ k ≤ 1000)
    (h : ∀ (c : Str) (os : List OfV) st', os.length = k.toNat → RtOk c os → Pn cells (B + 40 + 60 * k) g st' → Q (.tup [.str c, .lst (os.map OfV.row)]) st') : OkF (m_law_chain n [.hnd 0, .int k] st) Q := by
  have hz : sizeLine = 16777216 := sizeLine_eq
  unfold m_law_chain
  refine okF_fnF rfl ?_
  unfold b_law_chain
  refine ok_seq ?_
  walk_at "sx"
  refine sp_names hp (by omega) (by omega) fun ss st1 hl1 hn1 hd1 hs1 => ?_
  refine sp_names hs1 (by omega) (by omega) fun ts st2 hl2 hn2 hd2 hs2 => ?_
  obtain ⟨c, ss', hss⟩ : ∃ c ss', ss = c :: ss' := by
    cases ss with
    | nil => exact absurd hl1 (by decide)
    | cons c r => exact ⟨c, r, rfl⟩
  have hc : Nm c := hn1 c (by rw [hss]; exact List.mem_cons_self)
  have ha : L2.atI (ss.map PV.str) 0 = some (.str c) := by
    rw [hss]
    show (L2.ixN _ 0).bind _ = _
    simp [L2.ixN]
  walk_at "sx"
  refine ok_seq ?_
  walk_at "sx"
  refine ⟨_, ha, by omega, ?_⟩
  refine ok_seq ?_
  walk_at "sx"
  refine ⟨_, rngP_nat (by omega) (by omega), ?_⟩
  refine ok_for (fun j s => (j : Int) ≤ k ∧ ∃ (os : List OfV) (e6 e7 : Option SV) (st' : List MO), s = ⟨[some (SV.val (.hnd 0)), some (SV.val (.int k)), some (SV.val (.lst (ss.map PV.str))), some (SV.val (.lst (ts.map PV.str))), some (SV.val (.str (endO c os))), some (SV.own (os.map OfV.row)), e6, e7], st'⟩ ∧ os.length = j ∧ RtOk c os ∧ Pn cells (B + 40 + 60 * (j : Int)) g st')
    ⟨by omega, [], none, none, st2, rfl, rfl, ⟨hc, (fun o h => nomatch h), trivial⟩, hs2.mono (by omega)⟩ ?_ ?_
  · rintro j x s hx ⟨hjk, os, e6, e7, st', rfl, hlen, hr, hs⟩
    have hj : j < k.toNat := by
      have := (List.getElem?_eq_some_iff.mp hx).1
      simpa using this
    refine ok_seq ?_
    walk_at "sx"
    refine sp_pickL hs (xs := ss.map PV.str) (by simp [hl1]) (by omega) fun v st3 hv hs3 => ?_
    obtain ⟨d, hd, rfl⟩ := names_str hv
    walk_at "sx"
    refine ok_seq ?_
    walk_at "sx"
    refine ⟨⟨_, rfl⟩, ?_⟩
    refine sp_pickL hs3 (xs := ts.map PV.str) (by simp [hl2]) (by omega) fun v st4 hv hs4 => ?_
    obtain ⟨nm, hnm, rfl⟩ := names_str hv
    walk_at "sx"
    refine sp_row hs4 (by omega) (hn2 nm hnm) hr.end (hn1 d hd) fun o st5 e1 e2 e3 hw hs5 => ?_
    rw [ok_push rfl (by rw [List.length_map]; omega)]
    walk_at "st"
    refine ⟨by omega, os ++ [o], some (SV.val x), some (SV.val (PV.str d)), st5, ?_, by rw [List.length_append, hlen]; rfl, ⟨hc, fun p hp => ?_, Jn.app.mpr ⟨hr.jn, e2, trivial⟩⟩, hs5.mono (by omega)⟩
    · rw [List.map_append, endO_app]
      show _ = _
      simp only [endO, e3]
      rfl
    · rcases List.mem_append.mp hp with hp | hp
      · exact hr.wf p hp
      · rw [List.mem_singleton.mp hp]; exact hw
  rintro s ⟨_, os, e6, e7, st', rfl, hlen, hr, hs⟩
  rw [List.length_map, List.length_range] at hlen hs
  walk_at "st"
  refine ⟨_, ha, ?_⟩
  walk_at "st"
  exact ⟨by omega, h c os st' hlen hr (hs.mono (by omega))⟩
theorem at0 {a : PV} {r : List PV} : L2.atI (a :: r) 0 = some a := by
  show (L2.ixN _ 0).bind _ = _
  simp [L2.ixN]
theorem at1 {a b : PV} {r : List PV} : L2.atI (a :: b :: r) 1 = some b := by
  show (L2.ixN _ 1).bind _ = _
  have : L2.ixN (a :: b :: r).length 1 = some 1 := by
    unfold L2.ixN
    simp
    omega
  rw [this]
  rfl
theorem cut_2 {a b : PV} {r : List PV} : cutP (a :: b :: r) (some 2) none = r := by
  have e1 : HT.sIx (a :: b :: r).length 0 (some 2) = 2 := by
    unfold HT.sIx
    simp
    try omega
  have e2 : HT.sIx (a :: b :: r).length (a :: b :: r).length none = (a :: b :: r).length := rfl
  unfold cutP
  rw [e1, e2]
  show List.take _ r = r
  exact List.take_of_length_le (by simp)
set_option maxHeartbeats 8000000 in
theorem sp_route {n : Nat} {B : Int} {cells : List Int} {g st : List MO} {c : Str} {os : List OfV} {Q : PV → List MO → Prop} (hp : Pn cells B g st) (hr : RtOk c os) (hl : os.length ≤ 1000)
    (h : ∀ g' st', Pn cells B g' st' → Q (Rt c os) st') : OkF (m_law_route n [.str c, .lst (os.map OfV.row)] st) Q := by
  have hz : sizeLine = 16777216 := sizeLine_eq
  unfold m_law_route
  refine okF_fnF rfl ?_
  unfold b_law_route
  refine ok_seq ?_
  walk_at "sx"
  refine ok_lcGo (fun j acc s => acc = (os.take j).map OfV.pv ∧ ∃ k, s = ⟨[some (SV.val (.str c)), some (SV.val (.lst (os.map OfV.row))), none, none, none, none], st ++ List.replicate k .gone⟩) ⟨by simp, 0, by simp [wip]⟩ ?_ ?_
  · rintro j x acc s hx ⟨rfl, k, rfl⟩
    rw [List.getElem?_map] at hx
    obtain ⟨o, ho, rfl⟩ := Option.map_eq_some_iff.mp hx
    have hj := (List.getElem?_eq_some_iff.mp ho).1
    walk_at "st"
    rw [eq_made (hr.wf o (List.mem_of_getElem? ho))]
    walk_at "st"
    refine ⟨by rw [List.length_map, List.length_take]; omega, ?_, k + 2, ?_⟩
    · rw [List.take_add_one, ho, List.map_append]; rfl
    · simp [wip, List.append_assoc, List.replicate_succ']
  rintro acc s ⟨rfl, k, rfl⟩
  rw [List.length_map, List.take_length]
  have hp2 : Pn cells B (g ++ List.replicate k .gone) (st ++ List.replicate k .gone) := hp.up
  generalize st ++ List.replicate k .gone = st2 at *
  generalize g ++ List.replicate k .gone = g2 at *
  walk_at "sx"
  refine ok_seq ?_
  walk_at "sx"
  rcases os with _ | ⟨o, _ | ⟨p, r⟩⟩
  · walk_at "st"
    simp only [List.map_nil, List.isEmpty_nil, List.length_nil]
    walk_at "st"
    simp only [if_true, decide_true, Nat.le_refl, Nat.lt_irrefl]
    rw [if_pos (by decide)]
    walk_at "st"
    refine ⟨by omega, by omega, ?_⟩
    exact (ok_mkR' (c := c) (os := []) hr (by simp) rfl).mpr (h _ _ hp2.up)
  · rw [if_pos (by simp)]
    walk_at "st"
    simp only [List.map_cons, List.map_nil, List.isEmpty_cons]
    walk_at "st"
    refine ⟨by omega, _, at0, ⟨by omega, by omega⟩, ?_⟩
    exact (ok_mkR' (c := c) (os := [o]) hr (by simp) rfl).mpr (h _ _ hp2.up)
  · rw [if_neg (by simp; omega)]
    have jn2 : RtOk c [o, p] := ⟨hr.nm, fun q hq => hr.wf q (by simp at hq ⊢; rcases hq with rfl | rfl <;> simp), hr.jn.take 2⟩
    walk_at "sx"
    refine ok_seq ?_
    walk_at "sx"
    refine ⟨_, at0, _, at1, ⟨by omega, by omega⟩, ?_⟩
    refine (ok_mkR' (c := c) (os := [o, p]) jn2 (by simp) rfl).mpr ?_
    walk_at "sx"
    refine ok_seq ?_
    walk_at "sx"
    rw [show cutP (o.pv :: p.pv :: List.map OfV.pv r) (some 2) none = r.map OfV.pv from cut_2]
    refine ok_for (fun j s => j ≤ r.length ∧ ∃ e4 k, s = ⟨[some (SV.val (.str c)), some (SV.val (.lst ((o :: p :: r).map OfV.row))), some (SV.val (.lst ((o :: p :: r).map OfV.pv))), some (SV.val (Rt c (o :: p :: r.take j))), e4, none], st2 ++ List.replicate k .gone⟩) ⟨Nat.zero_le _, none, 2, by simp⟩ ?_ ?_
    · rintro j x s hx ⟨hj, e4, k, rfl⟩
      rw [List.getElem?_map] at hx
      obtain ⟨q, hq, rfl⟩ := Option.map_eq_some_iff.mp hx
      have hjl := (List.getElem?_eq_some_iff.mp hq).1
      have e1 : r.take (j + 1) = r.take j ++ [q] := by rw [List.take_add_one, hq]; rfl
      have hr2 : RtOk c ((o :: p :: r.take j) ++ [q]) := by
        have e2 : (o :: p :: r.take j) ++ [q] = (o :: p :: r).take (j + 3) := by
          show o :: p :: (r.take j ++ [q]) = o :: p :: r.take (j + 1)
          rw [e1]
        rw [e2]
        exact ⟨hr.nm, (fun z hz => hr.wf z (List.mem_of_mem_take hz)), hr.jn.take _⟩
      walk_at "sx"
      rw [show Rt c (o :: p :: r.take j) = .obj "Route" KSR (vsR c (o :: p :: r.take j)) from rfl]
      have key := eq_Route_add (n := n) (st := st2 ++ List.replicate k .gone) hr2 (by simp at hl ⊢; omega)
      have e3 : (st2 ++ List.replicate k MO.gone) ++ [.gone, .gone] = st2 ++ List.replicate (k + 2) MO.gone := by simp [List.append_assoc, List.replicate_succ']
      rw [e3] at key
      have go : ∀ {E : PV → S → Prop} {QQ : PV → S → Prop} {env : Dn.Env}, QQ (Rt c ((o :: p :: r.take j) ++ [q])) ⟨env, st2 ++ List.replicate (k + 2) MO.gone⟩ → Okx E (bopO tb_add [Str.ofString "Office", Str.ofString "CappedOffice"] [] n opAdd (.obj "Route" KSR (vsR c (o :: p :: r.take j))) q.pv) ⟨env, st2 ++ List.replicate k MO.gone⟩ QQ := by
        intro E QQ env hh
        cases hm : q.most with
        | none =>
          rw [OfV.pv_none hm] at key ⊢
          rw [ok_bop (m := m_Route_add) rfl (.inr (by decide +kernel)), ok_runM]
          rw [show (PV.obj "Route" KSR (vsR c (o :: p :: r.take j))) = Rt c (o :: p :: r.take j) from rfl, key]
          exact hh
        | some w =>
          rw [OfV.pv_some hm] at key ⊢
          rw [ok_bop (m := m_Route_add) rfl (.inr (by decide +kernel)), ok_runM]
          rw [show (PV.obj "Route" KSR (vsR c (o :: p :: r.take j))) = Rt c (o :: p :: r.take j) from rfl, key]
          exact hh
      refine go ?_
      refine ⟨hjl, some (SV.val q.pv), k + 2, ?_⟩
      rw [e1]
      rfl
    · rintro s ⟨_, e4, k, rfl⟩
      rw [List.length_map, List.take_length]
      walk_at "st"
      exact h _ _ hp2.up
end Lw
/-! Pg: plain rules of generators. -/
namespace Dn
open PySem Gn
open L2 hiding bin
section
variable {E : PV → S → Prop} {s s0 : S} {Q : Fl → S → Prop} {cs : List Str} {tg : Tgt} {body : M Fl} {n N : Nat} {t : List MO → Gt} {Φ : Gt → Prop} {κ : Fl → S → Gt} {a b : GM} {m : M Fl} {ce : M PV} {cg : M (List MO → Gt)}
/-- a consumer, the generator's stretch told -/
def drvT (cs : List Str) (tg : Tgt) (body : M Fl) (n : Nat) (τ : Gt) : M Fl := fun s => match τ with
    | .fin st => .ok .nx { s with sto := st }
    | .exc e st => if okE cs e = true then .exc e { s with sto := st } else .stk
    | .stk => .stk
    | .yld v st k => match tg v { s with sto := st } with
      | none => .stk
      | some s1 => match body s1 with
        | .ok .nx s' => driveG cs tg body n k s'
        | .ok .ct s' => driveG cs tg body n k s'
        | .ok .bk s' => .ok .nx s'
        | .ok (.rt d) s' => .ok (.rt d) s'
        | .ok (.ro d) s' => .ok (.ro d) s'
        | .exc e s' => .exc e s'
        | .stk => .stk
theorem ok_drive' (hn : 0 < N) : Okx E (driveG cs tg body N t) s Q ↔ Okx E (drvT cs tg body (N - 1) (t s.sto)) s Q := by
  cases N with
  | zero => omega
  | succ n => exact Iff.rfl
theorem ok_genFor : Okx E (genFor cs cg tg n body) s Q ↔ Okx E cg s (fun t s1 => Okx E (driveG cs tg body n t) s1 Q) := by
  unfold genFor
  exact ok_bnd
theorem drv_fin {st : List MO} : Okx E (drvT cs tg body n (.fin st)) s Q ↔ Q .nx { s with sto := st } := Iff.rfl
theorem drv_exc {e : PV} {st : List MO} : Okx E (drvT cs tg body n (.exc e st)) s Q ↔ okE cs e = true ∧ E e { s with sto := st } := by
  unfold Okx drvT
  by_cases h : okE cs e = true
  · simp only [h, if_true, true_and]
  · simp only [h, if_false, false_and, Bool.false_eq_true]
theorem drv_yld {v : PV} {st : List MO} {k : List MO → Gt} {s1 : S} (h : tg v { s with sto := st } = some s1) :
    Okx E (drvT cs tg body n (.yld v st k)) s Q ↔ Okx E body s1 (fun fl s' => match fl with | .nx => Okx E (driveG cs tg body n k) s' Q | .ct => Okx E (driveG cs tg body n k) s' Q | .bk => Q .nx s' | .rt d => Q (.rt d) s' | .ro d => Q (.ro d) s') := by
  unfold Okx drvT
  simp only [h]
  cases body s1 with
  | ok fl s' => cases fl <;> exact Iff.rfl
  | exc => exact Iff.rfl
  | stk => exact Iff.rfl
theorem tgU2 {i j : Nat} {x y : PV} : tgU [i, j] (.tup [x, y]) s = some { s with env := (s.env.set i (some (.val x))).set j (some (.val y)) } := by
  unfold tgU
  simp [setAll]
  rfl
/-! ### the generator's own statements -/
theorem okT_seq (h : Φ (a (fun fl s' => match fl with | .nx => b κ s' | fl => κ fl s') s0)) : Φ (seqG a b κ s0) := h
theorem okT_plain (h : Okx (fun e s' => Φ (.exc e s'.sto)) m s0 (fun fl s' => match fl with | .nx => Φ (κ .nx s') | .bk => Φ (κ .bk s') | .ct => Φ (κ .ct s') | _ => False)) : Φ (plainG m κ s0) := by
  unfold Okx at h
  unfold plainG
  cases e : m s0 with
  | stk => rw [e] at h; exact h.elim
  | exc x s' => rw [e] at h; exact h
  | ok fl s' =>
    rw [e] at h
    cases fl with
    | nx => exact h
    | bk => exact h
    | ct => exact h
    | rt d => exact h.elim
    | ro d => exact h.elim
theorem okT_yield (h : Okx (fun e s' => Φ (.exc e s'.sto)) ce s0 (fun v s' => Φ (.yld v s'.sto fun st => κ .nx ⟨clean s'.env, st⟩))) : Φ (yieldG ce κ s0) := by
  unfold Okx at h
  unfold yieldG
  cases e : ce s0 with
  | stk => rw [e] at h; exact h.elim
  | exc x s' => rw [e] at h; exact h
  | ok v s' => rw [e] at h; exact h
theorem okT_loop {cx : M (List PV)} (h : Okx (fun e s' => Φ (.exc e s'.sto)) cx s0 (fun xs s' => Φ (forG tg a κ xs s'))) : Φ (loopG cx tg a κ s0) := by
  unfold Okx at h
  unfold loopG
  cases e : cx s0 with
  | stk => rw [e] at h; exact h.elim
  | exc x s' => rw [e] at h; exact h
  | ok v s' => rw [e] at h; exact h
theorem okT_forN {i : Nat} {x : PV} {r : List PV} (h : Φ (a (fun fl s' => match fl with | .nx => forG (tgN i) a κ r s' | .ct => forG (tgN i) a κ r s' | .bk => κ .nx s' | _ => .stk) { s0 with env := s0.env.set i (some (.val x)) })) : Φ (forG (tgN i) a κ (x :: r) s0) := h
/-! ### a generator made -/
def gmethD (tab : List (Str × GFun)) (np n : Nat) (m : Str) (r : M (List PV)) (d : PV) : M (List MO → Gt) := fun s => match insOf s d with
  | some (c, ks, vs) => if (ks.zip vs).lookup m = none then (match tab.lookup c with
    | some f => bnd r (fun ds => if (d :: ds).length = np then ret (f n (d :: ds)) else stuck) s
    | none => .stk) else .stk
  | none => .stk
variable {QG : (List MO → Gt) → S → Prop} {ca : M PV} {ra : M (List PV)} {np : Nat} {f : GFun}
theorem ok_gmethM {tab : List (Str × GFun)} {mn : Str} : Okx E (gmethM tab np n mn ca ra) s QG ↔ Okx E ca s (fun d s1 => Okx E (gmethD tab np n mn ra d) s1 QG) := ok_bnd
theorem gmethD_obj {tab : List (Str × GFun)} {mn c : Str} {ks : List Str} {vs : List PV} (hf : (ks.zip vs).lookup mn = none) (ht : tab.lookup c = some f) :
    gmethD tab np n mn ra (.obj c ks vs) = bnd ra (fun ds => if (PV.obj c ks vs :: ds).length = np then ret (f n (.obj c ks vs :: ds)) else stuck) := by
  funext s
  unfold gmethD
  simp only [insOf_obj, hf, ht, if_true]
theorem genD_eq {np nn : Nat} {body : Nat → GM} {ds : List PV} {st : List MO} (h : ds.length = np) : genD np nn body n ds st = body n finK ⟨ds.map (fun d => some (SV.val d)) ++ List.replicate (nn - np) none, st⟩ := by
  unfold genD
  rw [if_pos h]
end
end Dn
/-! GH: a route walked office by office: its holdings, handed out one by one; the route called. -/
namespace Lw
open PySem Dn Gn
open L2 hiding bin
/-- amounts behind k offices -/
def AmX (k : Nat) (a : Int) : Prop := 0 ≤ a ∧ a ≤ 1000000000000000000000000000000 * 9 ^ k
theorem AmX.zero {a : Int} (h : 0 ≤ a ∧ a ≤ 1000000000000000000000000000000) : AmX 0 a := ⟨h.1, by simpa using h.2⟩
theorem AmX.val {k : Nat} {a : Int} {o : OfV} (h : AmX k a) (hw : o.Wf) : AmX (k + 1) (o.val a) := by
  have h1 := h.1
  have h2 := h.2
  have hp := hw.p
  have hq := hw.q
  have hf := hw.fee
  refine ⟨by unfold OfV.val; omega, ?_⟩
  have hc : o.cap a ≤ a := by
    unfold OfV.cap
    cases o.most with
    | none => exact Int.le_refl _
    | some m => show min a m ≤ a; omega
  have hv : o.val a ≤ 9 * a := by
    unfold OfV.val
    by_cases hn : o.cap a * o.p / o.q - o.fee ≤ 0
    · rw [Int.max_eq_left hn]; omega
    · have e1 : o.cap a * o.p / o.q ≤ o.cap a * o.p := by
        by_cases hs : 0 ≤ o.cap a * o.p
        · exact Int.ediv_le_self _ hs
        · have : o.cap a * o.p / o.q < 0 := Int.ediv_neg_of_neg_of_pos (by omega) (by omega)
          omega
      have e2 : o.cap a * o.p ≤ a * 9 := by
        have e3 : o.cap a * o.p ≤ a * o.p := Int.mul_le_mul_of_nonneg_right hc (by omega)
        have e4 : a * o.p ≤ a * 9 := Int.mul_le_mul_of_nonneg_left (by omega) h1
        omega
      rw [Int.max_eq_right (by omega)]
      omega
  have e : (1000000000000000000000000000000 : Int) * 9 ^ (k + 1) = 9 * (1000000000000000000000000000000 * 9 ^ k) := by
    rw [Int.pow_succ]; ac_rfl
  rw [e]
  omega
theorem AmX.log {k : Nat} {a : Int} (h : AmX k a) (hk : k ≤ 1100) : a.natAbs < 2 ^ 4000 := by
  have h1 := h.1
  have h2 := h.2
  have e : (9 : Int) ^ k = ((9 ^ k : Nat) : Int) := by rw [Int.natCast_pow]; rfl
  rw [e] at h2
  have h3 : a.natAbs ≤ 1000000000000000000000000000000 * 9 ^ k := by omega
  have h4 : 9 ^ k ≤ 9 ^ 1100 := Nat.pow_le_pow_right (by decide) hk
  have h5 : (1000000000000000000000000000000 : Nat) * 9 ^ 1100 < 2 ^ 4000 := by decide +kernel
  exact Nat.lt_of_le_of_lt h3 (Nat.lt_of_le_of_lt (Nat.mul_le_mul_left _ h4) h5)
theorem cmulX {k : Nat} {a b : Int} (h : AmX k a) (hk : k ≤ 1100) (hb : 0 ≤ b ∧ b ≤ 1000000) : L2.CMulW a b :=
  L2.wide_mul (b := 20) (h.log hk) (Nat.lt_of_le_of_lt (show b.natAbs ≤ 1000000 by omega) (by decide)) (by decide) (by decide) (by decide)
local macro_rules | `(tactic| walk_at "st") => `(tactic| try simp only [ok_ret, ok_bnd, ok_bin, ok_var, varK_val, varK_own, pv_val, pv_own, ok_asB, asBK_bl, ok_andT, ok_orT, ok_notT, ok_iteT, ok_andV, ok_notV, blK_bl,
  ok_argN, ok_argC, ok_fits, ok_tupM, ok_lstM, ok_parN, ok_parS, intK_int, ok_slM, lstK_lst, ok_joinM, strK_str, ok_itemsM, ok_rngM, ok_seqM, seqK_nx, seqK_rt, seqK_ro, seqK_bk, seqK_ct, ok_ifM, ok_retM, ok_slO, ok_dropM, ok_skipM, ok_asgM, ok_par2, ok_par2VO, ok_par3,
  ok_callM, rtK_rt, rtK_ro, rtK_nx, ok_loopM, ok_lcM, ok_dispM, ok_prsN, ok_prsC, ok_hget0, getK_some, ok_hputM, putK0, pc, pb, pl, ppb, ppl, plen, ok_add, ok_addS, ok_addT, ok_addL, ok_sub, ok_mul, ok_ixL, ok_ixT, ok_unp, unpK_tup, ok_set0, ok_setC, ok_app, flK_nx, flK_ct, flK_bk, flK_rt, flK_ro, sl_L, sl_T, sl_S, it_L, it_T, wip, ok_div, ok_mod, ok_pow, ok_rep, ok_ord, ok_fInt, ok_fAbs, ok_lenL, ok_lenT, ok_lenS, ok_fListL, ok_fListT, ok_fTupleL, ok_fTupleT, ok_eqI, ok_eqB, ok_eqS,
  okF_ok, okF_exc, ok_runM, ok_appA, ok_len1, ok_argS, starK_tup, starK_lst, ok_chain, isNonB_non, isNonB_int, isNonB_bl, isNonB_str, isNonB_tup, isNonB_lst, isNonB_obj, ok_isN, ok_max, ok_min, isi_int_int, isi_int_bl, isi_int_non, isi_int_str, isi_int_tup, isi_int_lst, isi_bool_int, isi_bool_bl, isi_str_str, isi_str_int, isi_str_bl, isi_str_non, isi_str_tup, isi_str_lst, isi_tuple_tup, isi_tuple_int, isi_tuple_bl, isi_tuple_non, isi_tuple_str, isi_tuple_lst,
  ok_conM, ok_fputM, fputK_new, conV_new, ok_makeM, ok_methM, ok_insM, ok_raise,
  List.map_cons, List.map_nil, List.replicate_succ, List.replicate_zero, List.cons_append, List.nil_append, List.append_nil, List.getElem?_cons_zero, List.getElem?_cons_succ, List.set_cons_zero, List.set_cons_succ, Nat.reduceSub, decide_eq_true_eq, if_true, if_false, Bool.false_eq_true, Bool.not_true, Bool.not_false, beq_self_eq_true, Bool.true_eq_false, bne_self_eq_false, Bool.bne_true, Bool.bne_false, Nat.zero_add, Nat.reduceAdd, true_and, and_true, reduceCtorEq, List.length_cons, List.length_nil, row0, row1, row2, row3, row4, row5, row6, f_name, f_ends, f_rate, f_fee, f_least])
local macro_rules | `(tactic| walk_at "sx") => `(tactic| try simp only [ok_ret, ok_bnd, ok_bin, ok_var, varK_val, varK_own, pv_val, pv_own, ok_asB, asBK_bl, ok_andT, ok_orT, ok_notT, ok_iteT, ok_andV, ok_notV, blK_bl,
  ok_argN, ok_argC, ok_fits, ok_tupM, ok_lstM, ok_parN, ok_parS, intK_int, ok_slM, lstK_lst, ok_joinM, strK_str, ok_itemsM, ok_rngM, seqK_nx, seqK_rt, seqK_ro, seqK_bk, seqK_ct, ok_ifM, ok_retM, ok_slO, ok_dropM, ok_skipM, ok_asgM, ok_par2, ok_par2VO, ok_par3,
  ok_callM, rtK_rt, rtK_ro, rtK_nx, ok_loopM, ok_lcM, ok_dispM, ok_prsN, ok_prsC, ok_hget0, getK_some, ok_hputM, putK0, pc, pb, pl, ppb, ppl, plen, ok_add, ok_addS, ok_addT, ok_addL, ok_sub, ok_mul, ok_ixL, ok_ixT, ok_unp, unpK_tup, ok_set0, ok_setC, ok_app, flK_nx, flK_ct, flK_bk, flK_rt, flK_ro, sl_L, sl_T, sl_S, it_L, it_T, wip, ok_div, ok_mod, ok_pow, ok_rep, ok_ord, ok_fInt, ok_fAbs, ok_lenL, ok_lenT, ok_lenS, ok_fListL, ok_fListT, ok_fTupleL, ok_fTupleT, ok_eqI, ok_eqB, ok_eqS,
  okF_ok, okF_exc, ok_runM, ok_appA, ok_len1, ok_argS, starK_tup, starK_lst, ok_chain, isNonB_non, isNonB_int, isNonB_bl, isNonB_str, isNonB_tup, isNonB_lst, isNonB_obj, ok_isN, ok_max, ok_min, isi_int_int, isi_int_bl, isi_int_non, isi_int_str, isi_int_tup, isi_int_lst, isi_bool_int, isi_bool_bl, isi_str_str, isi_str_int, isi_str_bl, isi_str_non, isi_str_tup, isi_str_lst, isi_tuple_tup, isi_tuple_int, isi_tuple_bl, isi_tuple_non, isi_tuple_str, isi_tuple_lst,
  ok_conM, ok_fputM, fputK_new, conV_new, ok_makeM, ok_methM, ok_insM, ok_raise,
  List.map_cons, List.map_nil, List.replicate_succ, List.replicate_zero, List.cons_append, List.nil_append, List.append_nil, List.getElem?_cons_zero, List.getElem?_cons_succ, List.set_cons_zero, List.set_cons_succ, Nat.reduceSub, decide_eq_true_eq, if_true, if_false, Bool.false_eq_true, Bool.not_true, Bool.not_false, beq_self_eq_true, Bool.true_eq_false, bne_self_eq_false, Bool.bne_true, Bool.bne_false, Nat.zero_add, Nat.reduceAdd, true_and, and_true, reduceCtorEq, List.length_cons, List.length_nil, row0, row1, row2, row3, row4, row5, row6, f_name, f_ends, f_rate, f_fee, f_least])
set_option maxHeartbeats 4000000 in
theorem eq_Office_resultX {n k : Nat} {o : OfV} {a : Int} {st : List MO} (h : o.Wf) (ha : AmX k a) (hk : k ≤ 1100) : m_Office_result n [o.pv, .int a] st = .ok (if a < o.least then .non else .int (max 0 (a * o.p / o.q - o.fee))) st := by
  have hp := h.p
  have hq := h.q
  refine OkFx.eq ?_
  unfold m_Office_result
  refine okF_fnF rfl ?_
  unfold b_Office_result
  walk_at "st"
  split
  · trivial
  · refine ⟨cmulX ha hk (by omega), cdiv100 (by omega) (by omega), rfl⟩
set_option maxHeartbeats 4000000 in
theorem eq_Capped_resultX {n k : Nat} {o : OfV} {a m : Int} {st : List MO} (h : o.Wf) (hm : o.most = some m) (ha : AmX k a) (hk : k ≤ 1100) : m_CappedOffice_result n [o.pv, .int a] st = .ok (if min a m < o.least then .non else .int (max 0 (min a m * o.p / o.q - o.fee))) st := by
  have hm2 := h.most m hm
  have hl := h.least
  have h0 := ha.1
  have h1 := ha.2
  refine OkFx.eq ?_
  unfold m_CappedOffice_result
  refine okF_fnF rfl ?_
  unfold b_CappedOffice_result
  refine ok_seq ?_
  walk_at "sx"
  rw [ok_sup (d := o.pv) (m := m_Office_result) (c := "CappedOffice") (ks := KS6) (vs := o.vs6 m) rfl (by rw [OfV.pv_some hm]; rfl) rfl]
  walk_at "sx"
  rw [f_most hm]
  walk_at "sx"
  rw [eq_Office_resultX h (k := k) ⟨by omega, by omega⟩ hk]
  trivial
theorem eq_resultX {n k : Nat} {o : OfV} {a : Int} {st : List MO} (h : o.Wf) (ha : AmX k a) (hk : k ≤ 1100) : o.fResult n [o.pv, .int a] st = .ok (o.res a) st := by
  unfold OfV.fResult OfV.res OfV.val OfV.cap
  cases hm : o.most with
  | none => exact eq_Office_resultX h ha hk
  | some m => exact eq_Capped_resultX h hm ha hk
/-- a route walked: the coins at its end, or the first closed office -/
def runR : List OfV → Int → Int ⊕ OfV
  | [], a => .inl a
  | o :: os, a => if a < o.least then .inr o else runR os (o.val a)
noncomputable def hB (n : Nat) : GM := Gn.seqG (Gn.plainG (asgM 2 (methM tm_result_2 n "result" (var 3) (appA 1 ([] : List Str).length (argC (var 2) argN) argN))))
    (Gn.seqG (Gn.plainG (ifM (asB (isN false (var 2))) (raiseM "Closed" "name" (bnd (var 3) (fldM ["Office", "CappedOffice"] "name"))) skipM))
    (Gn.seqG (Gn.yieldG (tupM (argC (bnd (var 3) (propM tp_goal n)) (argC (var 2) argN))))
    Gn.nilG))
local macro_rules | `(tactic| walk_at "st") => `(tactic| try simp only [ok_ret, ok_bnd, ok_bin, ok_var, varK_val, varK_own, pv_val, pv_own, ok_asB, asBK_bl, ok_andT, ok_orT, ok_notT, ok_iteT, ok_andV, ok_notV, blK_bl,
  ok_argN, ok_argC, ok_fits, ok_tupM, ok_lstM, ok_parN, ok_parS, intK_int, ok_slM, lstK_lst, ok_joinM, strK_str, ok_itemsM, ok_rngM, ok_seqM, seqK_nx, seqK_rt, seqK_ro, seqK_bk, seqK_ct, ok_ifM, ok_retM, ok_slO, ok_dropM, ok_skipM, ok_asgM, ok_par2, ok_par2VO, ok_par3,
  ok_callM, rtK_rt, rtK_ro, rtK_nx, ok_loopM, ok_lcM, ok_dispM, ok_prsN, ok_prsC, ok_hget0, getK_some, ok_hputM, putK0, pc, pb, pl, ppb, ppl, plen, ok_add, ok_addS, ok_addT, ok_addL, ok_sub, ok_mul, ok_ixL, ok_ixT, ok_unp, unpK_tup, ok_set0, ok_setC, ok_app, flK_nx, flK_ct, flK_bk, flK_rt, flK_ro, sl_L, sl_T, sl_S, it_L, it_T, wip, ok_div, ok_mod, ok_pow, ok_rep, ok_ord, ok_fInt, ok_fAbs, ok_lenL, ok_lenT, ok_lenS, ok_fListL, ok_fListT, ok_fTupleL, ok_fTupleT, ok_eqI, ok_eqB, ok_eqS,
  okF_ok, okF_exc, ok_runM, ok_appA, ok_len1, ok_argS, starK_tup, starK_lst, ok_chain, isNonB_non, isNonB_int, isNonB_bl, isNonB_str, isNonB_tup, isNonB_lst, isNonB_obj, ok_isN, ok_max, ok_min, isi_int_int, isi_int_bl, isi_int_non, isi_int_str, isi_int_tup, isi_int_lst, isi_bool_int, isi_bool_bl, isi_str_str, isi_str_int, isi_str_bl, isi_str_non, isi_str_tup, isi_str_lst, isi_tuple_tup, isi_tuple_int, isi_tuple_bl, isi_tuple_non, isi_tuple_str, isi_tuple_lst,
  ok_conM, ok_fputM, fputK_new, conV_new, ok_makeM, ok_methM, ok_insM, ok_raise,
  List.map_cons, List.map_nil, List.replicate_succ, List.replicate_zero, List.cons_append, List.nil_append, List.append_nil, List.getElem?_cons_zero, List.getElem?_cons_succ, List.set_cons_zero, List.set_cons_succ, Nat.reduceSub, decide_eq_true_eq, if_true, if_false, Bool.false_eq_true, Bool.not_true, Bool.not_false, beq_self_eq_true, Bool.true_eq_false, bne_self_eq_false, Bool.bne_true, Bool.bne_false, Nat.zero_add, Nat.reduceAdd, true_and, and_true, reduceCtorEq, List.length_cons, List.length_nil, row0, row1, row2, row3, row4, row5, row6, f_name, f_ends, f_rate, f_fee, f_least, o_result, p_goal, p_source])
set_option maxHeartbeats 4000000 in
/-- one office of the walk, as a tree -/
theorem tree_hold {n k : Nat} {x0 x1 e3 : Option SV} {κ : Fl → S → Gt} {o : OfV} {r : List PV} {a : Int} {st : List MO} (hx0 : ∀ x, x0 ≠ some (.own x)) (hx1 : ∀ x, x1 ≠ some (.own x)) (wo : o.Wf) (ha : AmX k a) (hk : k ≤ 1100) :
    forG (tgN 3) (hB n) κ (o.pv :: r) ⟨[x0, x1, some (.val (.int a)), e3], st⟩ = if a < o.least then .exc (closedE o) st else .yld (.tup [.str o.dst, .int (o.val a)]) st fun st' => forG (tgN 3) (hB n) κ r ⟨[x0, x1, some (.val (.int (o.val a))), some (.val o.pv)], st'⟩ := by
  generalize hR : (if a < o.least then Gt.exc (closedE o) st else .yld (.tup [.str o.dst, .int (o.val a)]) st fun st' => forG (tgN 3) (hB n) κ r ⟨[x0, x1, some (.val (.int (o.val a))), some (.val o.pv)], st'⟩) = R
  refine okT_forN (Φ := fun τ => τ = R) ?_
  refine okT_seq (Φ := fun τ => τ = R) ?_
  refine okT_plain (Φ := fun τ => τ = R) ?_
  walk_at "st"
  rw [eq_resultX wo ha hk]
  by_cases hl : a < o.least
  · rw [if_pos hl] at hR
    rw [res_closed wo hl]
    walk_at "st"
    refine okT_seq (Φ := fun τ => τ = R) ?_
    refine okT_plain (Φ := fun τ => τ = R) ?_
    walk_at "st"
    exact hR
  · rw [if_neg hl] at hR
    rw [res_open wo hl]
    walk_at "st"
    refine okT_seq (Φ := fun τ => τ = R) ?_
    refine okT_plain (Φ := fun τ => τ = R) ?_
    walk_at "st"
    refine okT_seq (Φ := fun τ => τ = R) ?_
    refine okT_yield (Φ := fun τ => τ = R) ?_
    walk_at "st"
    refine ⟨by have := sizeLine_eq; omega, ?_⟩
    rw [← hR]
    refine congrArg _ (funext fun st' => ?_)
    have e : clean [x0, x1, some (SV.val (PV.int (o.val a))), some (SV.val o.pv)] = [x0, x1, some (SV.val (PV.int (o.val a))), some (SV.val o.pv)] := by
      unfold clean
      simp only [List.map_cons, List.map_nil]
    rw [e]
    rfl
/-- the holdings behind the first one, handed out to any consumer -/
theorem drv_hold {E : PV → S → Prop} {Q : Fl → S → Prop} {tg : Tgt} {body : M Fl} {n : Nat} {x0 x1 : Option SV} {κ : Fl → S → Gt} (hx0 : ∀ x, x0 ≠ some (.own x)) (hx1 : ∀ x, x1 ≠ some (.own x)) (hκ : ∀ s, κ .nx s = .fin s.sto) (I : List OfV → Int → S → Prop)
    (step : ∀ o os k a s, o.Wf → AmX k a → k < 1100 → I (o :: os) a s → ¬ a < o.least → ∃ s1, tg (.tup [.str o.dst, .int (o.val a)]) s = some s1 ∧ Okx E body s1 (fun fl s' => fl = .nx ∧ I os (o.val a) s'))
    (fin : ∀ a s, I [] a s → Q .nx s) (exc : ∀ o os a s, I (o :: os) a s → a < o.least → E (closedE o) s) :
    ∀ (os : List OfV) (k N : Nat) (a : Int) (e3 : Option SV) (s : S), (∀ o ∈ os, o.Wf) → AmX k a → k + os.length ≤ 1100 → os.length < N → I os a s → Okx E (driveG ["Closed"] tg body N (fun st => forG (tgN 3) (hB n) κ (os.map OfV.pv) ⟨[x0, x1, some (.val (.int a)), e3], st⟩)) s Q := by
  intro os
  induction os with
  | nil =>
    intro k N a e3 s hw ha hk hN hI
    rw [ok_drive' (by simp at hN; omega)]
    show Okx E (drvT _ _ _ _ (κ .nx _)) s Q
    rw [hκ, drv_fin]
    exact fin a s hI
  | cons o os ih =>
    intro k N a e3 s hw ha hk hN hI
    have wo := hw o List.mem_cons_self
    simp only [List.length_cons] at hk hN
    rw [ok_drive' (by omega), List.map_cons, tree_hold hx0 hx1 wo ha (by omega)]
    by_cases hl : a < o.least
    · rw [if_pos hl, drv_exc]
      exact ⟨rfl, exc o os a s hI hl⟩
    · rw [if_neg hl]
      obtain ⟨s1, h1, h2⟩ := step o os k a s wo ha (by omega) hI hl
      rw [drv_yld (s1 := s1) h1]
      refine h2.imp fun fl s' hf => ?_
      obtain ⟨rfl, hI'⟩ := hf
      exact ih (k + 1) (N - 1) (o.val a) (some (.val o.pv)) s' (fun p hp => hw p (List.mem_cons_of_mem _ hp)) (ha.val wo) (by omega) (by omega) hI'
local macro_rules | `(tactic| walk_at "st") => `(tactic| try simp only [ok_ret, ok_bnd, ok_bin, ok_var, varK_val, varK_own, pv_val, pv_own, ok_asB, asBK_bl, ok_andT, ok_orT, ok_notT, ok_iteT, ok_andV, ok_notV, blK_bl,
  ok_argN, ok_argC, ok_fits, ok_tupM, ok_lstM, ok_parN, ok_parS, intK_int, ok_slM, lstK_lst, ok_joinM, strK_str, ok_itemsM, ok_rngM, ok_seqM, seqK_nx, seqK_rt, seqK_ro, seqK_bk, seqK_ct, ok_ifM, ok_retM, ok_slO, ok_dropM, ok_skipM, ok_asgM, ok_par2, ok_par2VO, ok_par3,
  ok_callM, rtK_rt, rtK_ro, rtK_nx, ok_loopM, ok_lcM, ok_dispM, ok_prsN, ok_prsC, ok_hget0, getK_some, ok_hputM, putK0, pc, pb, pl, ppb, ppl, plen, ok_add, ok_addS, ok_addT, ok_addL, ok_sub, ok_mul, ok_ixL, ok_ixT, ok_unp, unpK_tup, ok_set0, ok_setC, ok_app, flK_nx, flK_ct, flK_bk, flK_rt, flK_ro, sl_L, sl_T, sl_S, it_L, it_T, wip, ok_div, ok_mod, ok_pow, ok_rep, ok_ord, ok_fInt, ok_fAbs, ok_lenL, ok_lenT, ok_lenS, ok_fListL, ok_fListT, ok_fTupleL, ok_fTupleT, ok_eqI, ok_eqB, ok_eqS,
  okF_ok, okF_exc, ok_runM, ok_appA, ok_len1, ok_argS, starK_tup, starK_lst, ok_chain, isNonB_non, isNonB_int, isNonB_bl, isNonB_str, isNonB_tup, isNonB_lst, isNonB_obj, ok_isN, ok_max, ok_min, isi_int_int, isi_int_bl, isi_int_non, isi_int_str, isi_int_tup, isi_int_lst, isi_bool_int, isi_bool_bl, isi_str_str, isi_str_int, isi_str_bl, isi_str_non, isi_str_tup, isi_str_lst, isi_tuple_tup, isi_tuple_int, isi_tuple_bl, isi_tuple_non, isi_tuple_str, isi_tuple_lst,
  ok_conM, ok_fputM, fputK_new, conV_new, ok_makeM, ok_methM, ok_insM, ok_raise,
  List.map_cons, List.map_nil, List.replicate_succ, List.replicate_zero, List.cons_append, List.nil_append, List.append_nil, List.getElem?_cons_zero, List.getElem?_cons_succ, List.set_cons_zero, List.set_cons_succ, Nat.reduceSub, decide_eq_true_eq, if_true, if_false, Bool.false_eq_true, Bool.not_true, Bool.not_false, beq_self_eq_true, Bool.true_eq_false, bne_self_eq_false, Bool.bne_true, Bool.bne_false, Nat.zero_add, Nat.reduceAdd, true_and, and_true, reduceCtorEq, List.length_cons, List.length_nil, row0, row1, row2, row3, row4, row5, row6, f_name, f_ends, f_rate, f_fee, f_least, o_result, p_goal, p_source, g_start, g_end, g_offs])
local macro_rules | `(tactic| walk_at "sx") => `(tactic| try simp only [ok_ret, ok_bnd, ok_bin, ok_var, varK_val, varK_own, pv_val, pv_own, ok_asB, asBK_bl, ok_andT, ok_orT, ok_notT, ok_iteT, ok_andV, ok_notV, blK_bl,
  ok_argN, ok_argC, ok_fits, ok_tupM, ok_lstM, ok_parN, ok_parS, intK_int, ok_slM, lstK_lst, ok_joinM, strK_str, ok_itemsM, ok_rngM, seqK_nx, seqK_rt, seqK_ro, seqK_bk, seqK_ct, ok_ifM, ok_retM, ok_slO, ok_dropM, ok_skipM, ok_asgM, ok_par2, ok_par2VO, ok_par3,
  ok_callM, rtK_rt, rtK_ro, rtK_nx, ok_loopM, ok_lcM, ok_dispM, ok_prsN, ok_prsC, ok_hget0, getK_some, ok_hputM, putK0, pc, pb, pl, ppb, ppl, plen, ok_add, ok_addS, ok_addT, ok_addL, ok_sub, ok_mul, ok_ixL, ok_ixT, ok_unp, unpK_tup, ok_set0, ok_setC, ok_app, flK_nx, flK_ct, flK_bk, flK_rt, flK_ro, sl_L, sl_T, sl_S, it_L, it_T, wip, ok_div, ok_mod, ok_pow, ok_rep, ok_ord, ok_fInt, ok_fAbs, ok_lenL, ok_lenT, ok_lenS, ok_fListL, ok_fListT, ok_fTupleL, ok_fTupleT, ok_eqI, ok_eqB, ok_eqS,
  okF_ok, okF_exc, ok_runM, ok_appA, ok_len1, ok_argS, starK_tup, starK_lst, ok_chain, isNonB_non, isNonB_int, isNonB_bl, isNonB_str, isNonB_tup, isNonB_lst, isNonB_obj, ok_isN, ok_max, ok_min, isi_int_int, isi_int_bl, isi_int_non, isi_int_str, isi_int_tup, isi_int_lst, isi_bool_int, isi_bool_bl, isi_str_str, isi_str_int, isi_str_bl, isi_str_non, isi_str_tup, isi_str_lst, isi_tuple_tup, isi_tuple_int, isi_tuple_bl, isi_tuple_non, isi_tuple_str, isi_tuple_lst,
  ok_conM, ok_fputM, fputK_new, conV_new, ok_makeM, ok_methM, ok_insM, ok_raise,
  List.map_cons, List.map_nil, List.replicate_succ, List.replicate_zero, List.cons_append, List.nil_append, List.append_nil, List.getElem?_cons_zero, List.getElem?_cons_succ, List.set_cons_zero, List.set_cons_succ, Nat.reduceSub, decide_eq_true_eq, if_true, if_false, Bool.false_eq_true, Bool.not_true, Bool.not_false, beq_self_eq_true, Bool.true_eq_false, bne_self_eq_false, Bool.bne_true, Bool.bne_false, Nat.zero_add, Nat.reduceAdd, true_and, and_true, reduceCtorEq, List.length_cons, List.length_nil, row0, row1, row2, row3, row4, row5, row6, f_name, f_ends, f_rate, f_fee, f_least, o_result, p_goal, p_source, g_start, g_end, g_offs])
theorem tree_start {n : Nat} {c : Str} {os : List OfV} {a : Int} {st : List MO} (ha : 0 ≤ a ∧ a ≤ 1000000000000000000000000000000) :
    m_Route_holdings n [Rt c os, .int a] st = .yld (.tup [.str c, .int a]) st fun st' => forG (tgN 3) (hB n) (fun fl s' => match fl with | .nx => nilG finK s' | fl => finK fl s') (os.map OfV.pv) ⟨[some (.val (Rt c os)), some (.val (.int a)), some (.val (.int a)), none], st'⟩ := by
  generalize hR : Gt.yld (.tup [.str c, .int a]) st (fun st' => forG (tgN 3) (hB n) (fun fl s' => match fl with | .nx => nilG finK s' | fl => finK fl s') (os.map OfV.pv) ⟨[some (.val (Rt c os)), some (.val (.int a)), some (.val (.int a)), none], st'⟩) = R
  unfold m_Route_holdings
  rw [genD_eq (np := 2) rfl]
  unfold b_Route_holdings
  refine okT_seq (Φ := fun τ => τ = R) ?_
  refine okT_plain (Φ := fun τ => τ = R) ?_
  walk_at "st"
  rw [eq_need_amount ha]
  walk_at "st"
  refine okT_seq (Φ := fun τ => τ = R) ?_
  refine okT_yield (Φ := fun τ => τ = R) ?_
  walk_at "st"
  refine ⟨by have := sizeLine_eq; omega, ?_⟩
  rw [← hR]
  refine congrArg _ (funext fun st' => ?_)
  generalize hR2 : (forG (tgN 3) (hB n) (fun fl s' => match fl with | .nx => nilG finK s' | fl => finK fl s') (os.map OfV.pv) ⟨[some (.val (Rt c os)), some (.val (.int a)), some (.val (.int a)), none], st'⟩) = R2
  rw [show clean [some (SV.val (Rt c os)), some (SV.val (PV.int a)), none, none] = [some (SV.val (Rt c os)), some (SV.val (PV.int a)), none, none] from rfl]
  refine okT_seq (Φ := fun τ => τ = R2) ?_
  refine okT_plain (Φ := fun τ => τ = R2) ?_
  walk_at "st"
  refine okT_seq (Φ := fun τ => τ = R2) ?_
  refine okT_loop (Φ := fun τ => τ = R2) ?_
  walk_at "st"
  exact hR2
theorem g_hold {n : Nat} {c : Str} {os : List OfV} {ra : M (List PV)} : gmethD tg_holdings_2 2 n "holdings" ra (Rt c os) = bnd ra fun ds => if (Rt c os :: ds).length = 2 then ret (m_Route_holdings n (Rt c os :: ds)) else stuck := gmethD_obj rfl rfl
set_option maxHeartbeats 4000000 in
/-- the route called -/
theorem eq_Route_call {n : Nat} {c : Str} {os : List OfV} {a : Int} {st : List MO} (hw : ∀ o ∈ os, o.Wf) (ha : 0 ≤ a ∧ a ≤ 1000000000000000000000000000000) (hl : os.length ≤ 1000) (hn : os.length + 1 < n) :
    m_Route_call n [Rt c os, .int a] st = match runR os a with | .inl b => .ok (.int b) st | .inr o => .exc (closedE o) st := by
  have main : OkFx (fun e st' => match runR os a with | .inl _ => False | .inr o => e = closedE o ∧ st' = st) (m_Route_call n [Rt c os, .int a] st) (fun d st' => match runR os a with | .inl b => d = .int b ∧ st' = st | .inr _ => False) := by
    unfold m_Route_call
    refine okF_fnF rfl ?_
    unfold b_Route_call
    refine ok_seq ?_
    walk_at "sx"
    refine ok_seq ?_
    rw [ok_genFor, ok_gmethM]
    walk_at "sx"
    rw [g_hold]
    walk_at "sx"
    rw [ok_drive' (by omega), tree_start ha, drv_yld (s1 := _) tgU2]
    walk_at "sx"
    refine drv_hold (fun x e => by cases e) (fun x e => by cases e) (fun s => rfl) (fun r b s => runR r b = runR os a ∧ ∃ e3 e4, s = ⟨[some (.val (Rt c os)), some (.val (.int a)), some (.val (.int b)), e3, e4], st⟩) ?_ ?_ ?_ os 0 (n - 1) a none _ hw (AmX.zero ha) (by omega) (by omega) ⟨rfl, _, _, rfl⟩
    · rintro o r k b s wo hb hk ⟨hr, e3, e4, rfl⟩ hl
      refine ⟨_, tgU2, ?_⟩
      walk_at "st"
      refine ⟨?_, _, _, rfl⟩
      rw [← hr]
      show _ = if b < o.least then _ else _
      rw [if_neg hl]
    · rintro b s ⟨hr, e3, e4, rfl⟩
      walk_at "st"
      rw [← hr]
      first
        | exact ⟨rfl, rfl⟩
        | exact rfl
    · rintro o r b s ⟨hr, e3, e4, rfl⟩ hl
      have e : runR (o :: r) b = .inr o := by
        show (if b < o.least then _ else _) = _
        rw [if_pos hl]
      rw [← hr, e]
      exact ⟨rfl, rfl⟩
  cases h : runR os a with
  | inl b =>
    rw [h] at main
    cases e : m_Route_call n [Rt c os, .int a] st with
    | ok d st' => rw [e] at main; obtain ⟨rfl, rfl⟩ := main; rfl
    | exc x st' => rw [e] at main; exact main.elim
    | stk => rw [e] at main; exact main.elim
  | inr o =>
    rw [h] at main
    cases e : m_Route_call n [Rt c os, .int a] st with
    | ok d st' => rw [e] at main; exact main.elim
    | exc x st' => rw [e] at main; obtain ⟨rfl, rfl⟩ := main; rfl
    | stk => rw [e] at main; exact main.elim
end Lw
/-! A6: amounts drawn; how results grow. -/
namespace Lw
open PySem Dn
open L2 hiding bin
local macro_rules | `(tactic| walk_at "st") => `(tactic| try simp only [ok_ret, ok_bnd, ok_bin, ok_var, varK_val, varK_own, pv_val, pv_own, ok_asB, asBK_bl, ok_andT, ok_orT, ok_notT, ok_iteT, ok_andV, ok_notV, blK_bl,
  ok_argN, ok_argC, ok_fits, ok_tupM, ok_lstM, ok_parN, ok_parS, intK_int, ok_slM, lstK_lst, ok_joinM, strK_str, ok_itemsM, ok_rngM, ok_seqM, seqK_nx, seqK_rt, seqK_ro, seqK_bk, seqK_ct, ok_ifM, ok_retM, ok_slO, ok_dropM, ok_skipM, ok_asgM, ok_par2, ok_par2VO, ok_par3,
  ok_callM, rtK_rt, rtK_ro, rtK_nx, ok_loopM, ok_lcM, ok_dispM, ok_prsN, ok_prsC, ok_hget0, getK_some, ok_hputM, putK0, pc, pb, pl, ppb, ppl, plen, ok_add, ok_addS, ok_addT, ok_addL, ok_sub, ok_mul, ok_ixL, ok_ixT, ok_unp, unpK_tup, ok_set0, ok_setC, ok_app, flK_nx, flK_ct, flK_bk, flK_rt, flK_ro, sl_L, sl_T, sl_S, it_L, it_T, wip, ok_div, ok_mod, ok_pow, ok_rep, ok_ord, ok_fInt, ok_fAbs, ok_lenL, ok_lenT, ok_lenS, ok_fListL, ok_fListT, ok_fTupleL, ok_fTupleT, ok_eqI, ok_eqB, ok_eqS,
  okF_ok, okF_exc, ok_runM, ok_appA, ok_len1, ok_argS, starK_tup, starK_lst, ok_chain, isNonB_non, isNonB_int, isNonB_bl, isNonB_str, isNonB_tup, isNonB_lst, isNonB_obj, ok_isN, ok_max, ok_min, isi_int_int, isi_int_bl, isi_int_non, isi_int_str, isi_int_tup, isi_int_lst, isi_bool_int, isi_bool_bl, isi_str_str, isi_str_int, isi_str_bl, isi_str_non, isi_str_tup, isi_str_lst, isi_tuple_tup, isi_tuple_int, isi_tuple_bl, isi_tuple_non, isi_tuple_str, isi_tuple_lst,
  ok_conM, ok_fputM, fputK_new, conV_new, ok_makeM, ok_methM, ok_insM, ok_raise,
  List.map_cons, List.map_nil, List.replicate_succ, List.replicate_zero, List.cons_append, List.nil_append, List.append_nil, List.getElem?_cons_zero, List.getElem?_cons_succ, List.set_cons_zero, List.set_cons_succ, Nat.reduceSub, decide_eq_true_eq, if_true, if_false, Bool.false_eq_true, Bool.not_true, Bool.not_false, beq_self_eq_true, Bool.true_eq_false, bne_self_eq_false, Bool.bne_true, Bool.bne_false, Nat.zero_add, Nat.reduceAdd, true_and, and_true, reduceCtorEq, List.length_cons, List.length_nil, row0, row1, row2, row3, row4, row5, row6, f_name, f_ends, f_rate, f_fee, f_least, o_result, o_call])
local macro_rules | `(tactic| walk_at "sx") => `(tactic| try simp only [ok_ret, ok_bnd, ok_bin, ok_var, varK_val, varK_own, pv_val, pv_own, ok_asB, asBK_bl, ok_andT, ok_orT, ok_notT, ok_iteT, ok_andV, ok_notV, blK_bl,
  ok_argN, ok_argC, ok_fits, ok_tupM, ok_lstM, ok_parN, ok_parS, intK_int, ok_slM, lstK_lst, ok_joinM, strK_str, ok_itemsM, ok_rngM, seqK_nx, seqK_rt, seqK_ro, seqK_bk, seqK_ct, ok_ifM, ok_retM, ok_slO, ok_dropM, ok_skipM, ok_asgM, ok_par2, ok_par2VO, ok_par3,
  ok_callM, rtK_rt, rtK_ro, rtK_nx, ok_loopM, ok_lcM, ok_dispM, ok_prsN, ok_prsC, ok_hget0, getK_some, ok_hputM, putK0, pc, pb, pl, ppb, ppl, plen, ok_add, ok_addS, ok_addT, ok_addL, ok_sub, ok_mul, ok_ixL, ok_ixT, ok_unp, unpK_tup, ok_set0, ok_setC, ok_app, flK_nx, flK_ct, flK_bk, flK_rt, flK_ro, sl_L, sl_T, sl_S, it_L, it_T, wip, ok_div, ok_mod, ok_pow, ok_rep, ok_ord, ok_fInt, ok_fAbs, ok_lenL, ok_lenT, ok_lenS, ok_fListL, ok_fListT, ok_fTupleL, ok_fTupleT, ok_eqI, ok_eqB, ok_eqS,
  okF_ok, okF_exc, ok_runM, ok_appA, ok_len1, ok_argS, starK_tup, starK_lst, ok_chain, isNonB_non, isNonB_int, isNonB_bl, isNonB_str, isNonB_tup, isNonB_lst, isNonB_obj, ok_isN, ok_max, ok_min, isi_int_int, isi_int_bl, isi_int_non, isi_int_str, isi_int_tup, isi_int_lst, isi_bool_int, isi_bool_bl, isi_str_str, isi_str_int, isi_str_bl, isi_str_non, isi_str_tup, isi_str_lst, isi_tuple_tup, isi_tuple_int, isi_tuple_bl, isi_tuple_non, isi_tuple_str, isi_tuple_lst,
  ok_conM, ok_fputM, fputK_new, conV_new, ok_makeM, ok_methM, ok_insM, ok_raise,
  List.map_cons, List.map_nil, List.replicate_succ, List.replicate_zero, List.cons_append, List.nil_append, List.append_nil, List.getElem?_cons_zero, List.getElem?_cons_succ, List.set_cons_zero, List.set_cons_succ, Nat.reduceSub, decide_eq_true_eq, if_true, if_false, Bool.false_eq_true, Bool.not_true, Bool.not_false, beq_self_eq_true, Bool.true_eq_false, bne_self_eq_false, Bool.bne_true, Bool.bne_false, Nat.zero_add, Nat.reduceAdd, true_and, and_true, reduceCtorEq, List.length_cons, List.length_nil, row0, row1, row2, row3, row4, row5, row6, f_name, f_ends, f_rate, f_fee, f_least, o_result, o_call])
local macro_rules | `(tactic| walk_at "sv") => `(tactic| repeat' first | exact True.intro | with_reducible rfl | omega | exact cdiv100 (by omega) (by omega) | exact cmul100 (by omega) (by omega) | (show L2.CPow _ _; decide +kernel) | apply And.intro)
theorem isNonB_mostV {o : OfV} : isNonB o.mostV = o.most.isNone := by
  unfold OfV.mostV
  cases o.most <;> rfl
set_option maxHeartbeats 4000000 in
theorem sp_amount {n : Nat} {B : Int} {cells : List Int} {g st : List MO} {o : OfV} {Q : PV → List MO → Prop} (hp : Pn cells B g st) (hB : B < 10000000) (ho : o.Wf)
    (h : ∀ (a : Int) st', 0 ≤ a → a ≤ 1000000000000000000000000000000 → Pn cells (B + 70) g st' → Q (.int a) st') : OkF (m_law_amount n [.hnd 0, o.row] st) Q := by
  have hz : sizeLine = 16777216 := sizeLine_eq
  have hl := ho.least
  unfold m_law_amount
  refine okF_fnF rfl ?_
  unfold b_law_amount
  have key : ∀ (near : Int) (B' : Int) (st' : List MO), 0 ≤ near → near ≤ 1000000 → Pn cells B' g st' → B' ≤ B + 1 → Okx (fun _ _ => False) (seqM (asgM 3 (lstM (fits (argC (Dn.ret (.int 0)) (argC (Dn.ret (.int 1)) (argC (var 2) (argC (var 2) (argC (Dn.bin (var 2) (Dn.ret (.int 1)) opAdd) (argC (Dn.bin (Dn.ret (.int 0)) (Dn.bin (var 2) (Dn.ret (.int 1)) opSub) opMax) (argC (Dn.bin (var 2) (callM m_law_draw n (argC (var 0) (argC (Dn.ret (.int 40)) argN))) opAdd) (argC (callM m_law_draw n (argC (var 0) (argC (Dn.ret (.int 100)) argN))) argN)))))))))))
    (seqM (asgM 3 (Dn.bin (var 3) (lstM (fits (argC (callM m_law_digits n (argC (var 0) (argC (Dn.ret (.int 6)) argN))) (argC (callM m_law_digits n (argC (var 0) (argC (Dn.ret (.int 30)) argN))) (argC (Dn.bin (Dn.ret (.int 10)) (Dn.ret (.int 30)) opPow) argN))))) opAdd))
    (retM (callM m_law_pick n (argC (var 0) (argC (var 3) argN)))))) ⟨[some (SV.val (.hnd 0)), some (SV.val o.row), some (SV.val (.int near)), none], st'⟩ (fun fl s => rtK Q s fl) := fun near B' st' hn0 hn1 hs hB' => by
    walk_at "st"
    refine sp_draw hs (by omega) (by omega) fun d1 st1 h0 h1 hs1 => ?_
    refine sp_draw hs1 (by omega) (by omega) fun d2 st2 h2 h3 hs2 => ?_
    refine ⟨by omega, ?_⟩
    refine sp_digits (k := 6) hs2 (by decide) (by omega) fun d3 st3 h4 h5 hs3 => ?_
    refine sp_digits (k := 30) hs3 (by decide) (by omega) fun d4 st4 h6 h7 hs4 => ?_
    walk_at "sv"
    refine sp_pickL hs4 (by simp) (by omega) fun v st5 hv hs5 => ?_
    have h5 : d3 < 1000000 := h5
    have h7 : d4 < 1000000000000000000000000000000 := h7
    obtain ⟨x, rfl, hx1, hx2⟩ : ∃ x : Int, v = .int x ∧ 0 ≤ x ∧ x ≤ 1000000000000000000000000000000 := by
      simp only [List.mem_cons, List.not_mem_nil, or_false, List.cons_append, List.nil_append] at hv
      rcases hv with rfl | rfl | rfl | rfl | rfl | rfl | rfl | rfl | rfl | rfl | rfl
      all_goals first
        | exact ⟨_, rfl, by omega, by omega⟩
        | exact ⟨_, rfl, by decide, by decide⟩
    exact h x st5 hx1 hx2 (hs5.mono (by omega))
  refine ok_seq ?_
  walk_at "sx"
  rw [isNonB_mostV]
  cases hm : o.most with
  | none =>
    walk_at "sx"
    simp only [Option.isNone_none, bne_self_eq_false, Bool.true_bne, Bool.not_false, if_true]
    exact key o.least B st (by omega) (by omega) hp (by omega)
  | some m =>
    have hm2 := ho.most m hm
    simp only [Option.isNone_some, bne_self_eq_false, Bool.false_eq_true, if_false]
    refine sp_draw hp (by omega) (by omega) fun d0 st0 h0 h1 hs0 => ?_
    walk_at "sx"
    rw [mostV_some hm]
    split
    · exact key o.least _ st0 (by omega) (by omega) hs0 (by omega)
    · exact key m _ st0 (by omega) (by omega) hs0 (by omega)
/-! ### how results grow -/
end Lw
/-! Gc: fractions in lowest terms. -/
namespace Dn
open PySem
/-- a fraction in lowest terms -/
def lwN (a b : Nat) : Nat := a / Nat.gcd a b
def lwD (a b : Nat) : Nat := b / Nat.gcd a b
/-- as a value -/
def lw (a b : Nat) : PV := .tup [.int (lwN a b : Nat), .int (lwD a b : Nat)]
end Dn
/-! R3: rates and losses of routes. -/
namespace Lw
open PySem Dn
open L2 hiding bin
theorem a20 {a b : PV} {Z : PV → Prop} : (∃ v, L2.atI [a, b] 0 = some v ∧ Z v) ↔ Z a := ⟨fun ⟨_, e, q⟩ => by cases e; exact q, fun q => ⟨_, rfl, q⟩⟩
theorem a21 {a b : PV} {Z : PV → Prop} : (∃ v, L2.atI [a, b] 1 = some v ∧ Z v) ↔ Z b := ⟨fun ⟨_, e, q⟩ => by cases e; exact q, fun q => ⟨_, rfl, q⟩⟩
abbrev Big : Nat := 1267650600228229401496703205376
/-! the rate and the loss, as plain numbers -/
def rateN : List OfV → Nat := fun os => os.foldl (fun x o => x * o.p.toNat) 1
def rateD : List OfV → Nat := fun os => os.foldl (fun x o => x * o.q.toNat) 1
theorem rate_snoc {os : List OfV} {o : OfV} : rateN (os ++ [o]) = rateN os * o.p.toNat ∧ rateD (os ++ [o]) = rateD os * o.q.toNat := by
  unfold rateN rateD
  simp
theorem OfV.Wf.pq {o : OfV} (h : o.Wf) : ∃ p q f : Nat, o.p = p ∧ o.q = q ∧ o.fee = f ∧ 1 ≤ p ∧ p ≤ 9 ∧ 1 ≤ q ∧ q ≤ 9 ∧ f ≤ 20 := by
  refine ⟨o.p.toNat, o.q.toNat, o.fee.toNat, ?_, ?_, ?_, ?_⟩
  · have := h.p; omega
  · have := h.q; omega
  · have := h.fee; omega
  · have := h.p; have := h.q; have := h.fee; omega
theorem rate_bnd : ∀ (k : Nat) (os : List OfV), os.length = k → (∀ o ∈ os, o.Wf) → 1 ≤ rateN os ∧ rateN os ≤ 9 ^ k ∧ 1 ≤ rateD os ∧ rateD os ≤ 9 ^ k
  | 0, os, hl, _ => by
    have : os = [] := List.eq_nil_of_length_eq_zero hl
    subst this
    exact ⟨Nat.le_refl _, Nat.le_refl _, Nat.le_refl _, Nat.le_refl _⟩
  | k + 1, os, hl, h => by
    obtain ⟨os', o, rfl⟩ : ∃ os' o, os = os' ++ [o] := by
      rcases List.eq_nil_or_concat os with rfl | ⟨os', o, rfl⟩
      · cases hl
      · exact ⟨os', o, by simp⟩
    have ih := rate_bnd k os' (by simp at hl; exact hl) (fun p hp => h p (List.mem_append_left _ hp))
    obtain ⟨p, q, f, e1, e2, e3, b⟩ := (h o (by simp)).pq
    rw [rate_snoc.1, rate_snoc.2, e1, e2, Int.toNat_natCast, Int.toNat_natCast, Nat.pow_succ]
    refine ⟨Nat.mul_pos ih.1 b.1, Nat.mul_le_mul ih.2.1 b.2.1, Nat.mul_pos ih.2.2.1 b.2.2.1, Nat.mul_le_mul ih.2.2.2 b.2.2.2.1⟩
end Lw
/-! GR: rows are data. -/
namespace Lw
open PySem Dn
open L2 hiding bin
theorem gd_row {o : OfV} (h : o.Wf) : Gd 2 1000 o.row := by
  have hp := h.p
  have hq := h.q
  have hf := h.fee
  have hl := h.least
  have gi : ∀ {a : Int}, 0 ≤ a → a ≤ 1000000 → Gd 1 82 (.int a) := fun h0 h1 => (gd_int (n := 1) (Nat.lt_of_le_of_lt (show _ ≤ 1000000 by omega) (by decide))).mono (by decide) (by decide)
  have gs : ∀ {x : Str}, Nm x → Gd 1 82 (.str x) := fun hx => gd_str (strOk_iff.mpr fun c hc => low_ok (hx.low c hc)) (by have := hx.le; omega)
  refine (gd_tup (n := 1) (w := 82) fun v hv => ?_).mono (by decide) (by simp)
  simp only [List.mem_cons, List.not_mem_nil, or_false] at hv
  rcases hv with rfl | rfl | rfl | rfl | rfl | rfl | rfl
  · exact gs h.nm
  · exact gs h.src
  · exact gs h.dst
  · refine (gd_tup (n := 0) (w := 40) fun v hv => ?_).mono (by decide) (by simp)
    simp only [List.mem_cons, List.not_mem_nil, or_false] at hv
    rcases hv with rfl | rfl <;> exact gd_int (by omega)
  · exact gi (by omega) (by omega)
  · exact gi (by omega) (by omega)
  · unfold OfV.mostV
    cases hm : o.most with
    | none => exact gd_non
    | some m =>
      have := h.most m hm
      exact gi (by omega) (by omega)
end Lw
/-! GL: the law's own walk of a route; amounts for it. -/
namespace Lw
open PySem Dn Gn
open L2 hiding bin
local macro_rules | `(tactic| walk_at "st") => `(tactic| try simp only [ok_ret, ok_bnd, ok_bin, ok_var, varK_val, varK_own, pv_val, pv_own, ok_asB, asBK_bl, ok_andT, ok_orT, ok_notT, ok_iteT, ok_andV, ok_notV, blK_bl,
  ok_argN, ok_argC, ok_fits, ok_tupM, ok_lstM, ok_parN, ok_parS, intK_int, ok_slM, lstK_lst, ok_joinM, strK_str, ok_itemsM, ok_rngM, ok_seqM, seqK_nx, seqK_rt, seqK_ro, seqK_bk, seqK_ct, ok_ifM, ok_retM, ok_slO, ok_dropM, ok_skipM, ok_asgM, ok_par2, ok_par2VO, ok_par3,
  ok_callM, rtK_rt, rtK_ro, rtK_nx, ok_loopM, ok_lcM, ok_dispM, ok_prsN, ok_prsC, ok_hget0, getK_some, ok_hputM, putK0, pc, pb, pl, ppb, ppl, plen, ok_add, ok_addS, ok_addT, ok_addL, ok_sub, ok_mul, ok_ixL, ok_ixT, ok_unp, unpK_tup, ok_set0, ok_setC, ok_app, flK_nx, flK_ct, flK_bk, flK_rt, flK_ro, sl_L, sl_T, sl_S, it_L, it_T, wip, ok_div, ok_mod, ok_pow, ok_rep, ok_ord, ok_fInt, ok_fAbs, ok_lenL, ok_lenT, ok_lenS, ok_fListL, ok_fListT, ok_fTupleL, ok_fTupleT, ok_eqI, ok_eqB, ok_eqS,
  okF_ok, okF_exc, ok_runM, ok_appA, ok_len1, ok_argS, starK_tup, starK_lst, ok_chain, isNonB_non, isNonB_int, isNonB_bl, isNonB_str, isNonB_tup, isNonB_lst, isNonB_obj, ok_isN, ok_max, ok_min, isi_int_int, isi_int_bl, isi_int_non, isi_int_str, isi_int_tup, isi_int_lst, isi_bool_int, isi_bool_bl, isi_str_str, isi_str_int, isi_str_bl, isi_str_non, isi_str_tup, isi_str_lst, isi_tuple_tup, isi_tuple_int, isi_tuple_bl, isi_tuple_non, isi_tuple_str, isi_tuple_lst,
  ok_conM, ok_fputM, fputK_new, conV_new, ok_makeM, ok_methM, ok_insM, ok_raise,
  List.map_cons, List.map_nil, List.replicate_succ, List.replicate_zero, List.cons_append, List.nil_append, List.append_nil, List.getElem?_cons_zero, List.getElem?_cons_succ, List.set_cons_zero, List.set_cons_succ, Nat.reduceSub, decide_eq_true_eq, if_true, if_false, Bool.false_eq_true, Bool.not_true, Bool.not_false, beq_self_eq_true, Bool.true_eq_false, bne_self_eq_false, Bool.bne_true, Bool.bne_false, Nat.zero_add, Nat.reduceAdd, true_and, and_true, reduceCtorEq, List.length_cons, List.length_nil, row0, row1, row2, row3, row4, row5, row6, a20, a21])
local macro_rules | `(tactic| walk_at "sx") => `(tactic| try simp only [ok_ret, ok_bnd, ok_bin, ok_var, varK_val, varK_own, pv_val, pv_own, ok_asB, asBK_bl, ok_andT, ok_orT, ok_notT, ok_iteT, ok_andV, ok_notV, blK_bl,
  ok_argN, ok_argC, ok_fits, ok_tupM, ok_lstM, ok_parN, ok_parS, intK_int, ok_slM, lstK_lst, ok_joinM, strK_str, ok_itemsM, ok_rngM, seqK_nx, seqK_rt, seqK_ro, seqK_bk, seqK_ct, ok_ifM, ok_retM, ok_slO, ok_dropM, ok_skipM, ok_asgM, ok_par2, ok_par2VO, ok_par3,
  ok_callM, rtK_rt, rtK_ro, rtK_nx, ok_loopM, ok_lcM, ok_dispM, ok_prsN, ok_prsC, ok_hget0, getK_some, ok_hputM, putK0, pc, pb, pl, ppb, ppl, plen, ok_add, ok_addS, ok_addT, ok_addL, ok_sub, ok_mul, ok_ixL, ok_ixT, ok_unp, unpK_tup, ok_set0, ok_setC, ok_app, flK_nx, flK_ct, flK_bk, flK_rt, flK_ro, sl_L, sl_T, sl_S, it_L, it_T, wip, ok_div, ok_mod, ok_pow, ok_rep, ok_ord, ok_fInt, ok_fAbs, ok_lenL, ok_lenT, ok_lenS, ok_fListL, ok_fListT, ok_fTupleL, ok_fTupleT, ok_eqI, ok_eqB, ok_eqS,
  okF_ok, okF_exc, ok_runM, ok_appA, ok_len1, ok_argS, starK_tup, starK_lst, ok_chain, isNonB_non, isNonB_int, isNonB_bl, isNonB_str, isNonB_tup, isNonB_lst, isNonB_obj, ok_isN, ok_max, ok_min, isi_int_int, isi_int_bl, isi_int_non, isi_int_str, isi_int_tup, isi_int_lst, isi_bool_int, isi_bool_bl, isi_str_str, isi_str_int, isi_str_bl, isi_str_non, isi_str_tup, isi_str_lst, isi_tuple_tup, isi_tuple_int, isi_tuple_bl, isi_tuple_non, isi_tuple_str, isi_tuple_lst,
  ok_conM, ok_fputM, fputK_new, conV_new, ok_makeM, ok_methM, ok_insM, ok_raise,
  List.map_cons, List.map_nil, List.replicate_succ, List.replicate_zero, List.cons_append, List.nil_append, List.append_nil, List.getElem?_cons_zero, List.getElem?_cons_succ, List.set_cons_zero, List.set_cons_succ, Nat.reduceSub, decide_eq_true_eq, if_true, if_false, Bool.false_eq_true, Bool.not_true, Bool.not_false, beq_self_eq_true, Bool.true_eq_false, bne_self_eq_false, Bool.bne_true, Bool.bne_false, Nat.zero_add, Nat.reduceAdd, true_and, and_true, reduceCtorEq, List.length_cons, List.length_nil, row0, row1, row2, row3, row4, row5, row6, a20, a21])
theorem ok_neNil {os : List OfV} {E : PV → S → Prop} {s : S} {Q : PV → S → Prop} (hw : ∀ o ∈ os, o.Wf) : Okx E (opNe (.lst (os.map OfV.row)) (.lst [])) s Q ↔ Q (.bl (!os.isEmpty)) s := by
  rw [show opNe (PV.lst (os.map OfV.row)) (PV.lst []) = lft (eqP true (PV.lst (os.map OfV.row)) (PV.lst [])) from rfl, ok_eqNilG (n := 2) (w := 1000) (fun v hv => by
          obtain ⟨o, ho, rfl⟩ := List.mem_map.mp hv
          exact gd_row (hw o ho)) (by decide)]
  cases os <;> exact Iff.rfl
noncomputable def raR (n : Nat) : M Fl := retM (Dn.bin (Dn.bin (Dn.ret (.int 10)) (Dn.ret (.int 30)) opPow) (callM m_law_pick n (argC (var 0) (argC (lstM (fits (argC (var 2) (argC (var 2) (argC (callM m_law_draw n (argC (var 0) (argC (Dn.ret (.int 200)) argN))) (argC (callM m_law_draw n (argC (var 0) (argC (Dn.ret (.int 20000)) argN))) (argC (callM m_law_digits n (argC (var 0) (argC (Dn.ret (.int 30)) argN))) argN))))))) argN))) opMin)
theorem ra_eq {n : Nat} : b_law_route_amount n = seqM (asgM 2 (iteT (asB (Dn.bin (var 1) (lstM (fits argN)) opNe)) (callM m_law_amount n (argC (var 0) (argC (Dn.bin (var 1) (Dn.ret (.int 0)) opIx) argN))) (Dn.ret (.int 0)))) (raR n) := rfl
set_option maxHeartbeats 4000000 in
theorem sp_route_amount {n : Nat} {B : Int} {cells : List Int} {g st : List MO} {os : List OfV} {Q : PV → List MO → Prop} (hp : Pn cells B g st) (hB : B < 10000000) (hw : ∀ o ∈ os, o.Wf)
    (h : ∀ (a : Int) st', 0 ≤ a → a ≤ 1000000000000000000000000000000 → Pn cells (B + 150) g st' → Q (.int a) st') : OkF (m_law_route_amount n [.hnd 0, .lst (os.map OfV.row)] st) Q := by
  have hz : sizeLine = 16777216 := sizeLine_eq
  unfold m_law_route_amount
  refine okF_fnF rfl ?_
  rw [ra_eq]
  have key : ∀ (near : Int) (st' : List MO), 0 ≤ near → Pn cells (B + 80) g st' → Okx (fun _ _ => False) (raR n) ⟨[some (SV.val (.hnd 0)), some (SV.val (.lst (os.map OfV.row))), some (SV.val (.int near))], st'⟩ (fun fl s => rtK Q s fl) := fun near st' hn hs => by
    unfold raR
    walk_at "st"
    refine ⟨by (show L2.CPow _ _; decide +kernel), ?_⟩
    refine sp_draw hs (by omega) (by omega) fun d1 st1 h0 h1 hs1 => ?_
    refine sp_draw hs1 (by omega) (by omega) fun d2 st2 h2 h3 hs2 => ?_
    refine sp_digits (k := 30) hs2 (by decide) (by omega) fun d4 st4 h6 h7 hs4 => ?_
    refine ⟨by omega, ?_⟩
    refine sp_pickL hs4 (by simp) (by omega) fun v st5 hv hs5 => ?_
    obtain ⟨x, rfl, hx⟩ : ∃ x : Int, v = .int x ∧ 0 ≤ x := by
      simp only [List.mem_cons, List.not_mem_nil, or_false] at hv
      rcases hv with rfl | rfl | rfl | rfl | rfl
      all_goals exact ⟨_, rfl, by omega⟩
    walk_at "st"
    have e10 : (10 : Int) ^ (30 : Int).toNat = 1000000000000000000000000000000 := by decide
    exact h _ st5 (by omega) (by omega) (hs5.mono (by omega))
  refine ok_seq ?_
  walk_at "sx"
  refine ⟨by omega, ?_⟩
  rw [ok_neNil hw]
  cases os with
  | nil =>
    simp only [List.isEmpty_nil, Bool.not_true, Bool.false_eq_true, if_false]
    walk_at "sx"
    exact key 0 st (by omega) (hp.mono (by omega))
  | cons o os =>
    simp only [List.isEmpty_cons, Bool.not_false, if_true]
    walk_at "sx"
    refine ⟨_, at0, ?_⟩
    refine sp_amount hp (by omega) (hw o List.mem_cons_self) fun a st1 a0 a1 hp1 => ?_
    walk_at "sx"
    exact key a st1 a0 (hp1.mono (by omega))
end Lw
/-! R4: rates and losses told by the route and by the law. -/
namespace Lw
open PySem Dn
open L2 hiding bin
section
variable {n : Nat} {st : List MO} {s : S} {E : PV → S → Prop} {Q : PV → S → Prop}
theorem pow9 {k : Nat} (h : k ≤ 12) : 9 ^ k ≤ 282429536481 ∧ 21 * k * 9 ^ k ≤ 71172243193212 := by
  have h1 : 9 ^ k ≤ 9 ^ 12 := Nat.pow_le_pow_right (by decide) h
  have e : (9 : Nat) ^ 12 = 282429536481 := by decide
  refine ⟨by omega, ?_⟩
  have h2 : 21 * k * 9 ^ k ≤ (21 * 12) * 282429536481 := Nat.mul_le_mul (by omega) (by omega)
  omega
structure Rb (N D : Nat) : Prop where
  n : N ≤ 71172243193212
  d0 : 1 ≤ D
  d : D ≤ 282429536481
theorem rateB {os : List OfV} (hl : os.length ≤ 12) (h : ∀ o ∈ os, o.Wf) : Rb (rateN os) (rateD os) := by
  have b := rate_bnd os.length os rfl h
  have p := pow9 hl
  exact ⟨by omega, by omega, by omega⟩
/-! the law's own -/
end
end Lw
/-! Un: offices without caps; widths of numbers; the route asked in short. -/
namespace Lw
open PySem Dn Gn
open L2 hiding bin
def OfV.un (o : OfV) : OfV := { o with most := none }
theorem OfV.Wf.un {o : OfV} (h : o.Wf) : o.un.Wf := ⟨h.nm, h.src, h.dst, h.p, h.q, h.fee, h.least, fun m e => nomatch e⟩
theorem jn_un : ∀ {c : Str} {os : List OfV}, Jn c os → Jn c (os.map OfV.un)
  | _, [], _ => trivial
  | c, o :: os, h => ⟨h.1, jn_un h.2⟩
theorem RtOk.un {c : Str} {os : List OfV} (h : RtOk c os) : RtOk c (os.map OfV.un) := ⟨h.nm, (fun p hp => by
  obtain ⟨o, ho, rfl⟩ := List.mem_map.mp hp
  exact (h.wf o ho).un), jn_un h.jn⟩
theorem un_none {os : List OfV} : ∀ o ∈ os.map OfV.un, o.most = none := fun p hp => by
  obtain ⟨o, _, rfl⟩ := List.mem_map.mp hp
  rfl
theorem runR_nn : ∀ {os : List OfV} {a b : Int}, 0 ≤ a → runR os a = .inl b → 0 ≤ b
  | [], a, b, h, e => by cases e; exact h
  | o :: os, a, b, h, e => by
    unfold runR at e
    split at e
    · cases e
    · exact runR_nn (by unfold OfV.val; omega) e
theorem row_cut {o : OfV} : cutP [PV.str o.nm, PV.str o.src, PV.str o.dst, PV.tup [PV.int o.p, PV.int o.q], PV.int o.fee, PV.int o.least, o.mostV] none (some 6) = [PV.str o.nm, PV.str o.src, PV.str o.dst, PV.tup [PV.int o.p, PV.int o.q], PV.int o.fee, PV.int o.least] := rfl
theorem r_call {n : Nat} {c : Str} {os : List OfV} {ra : M (List PV)} : insD ti_2 n ra (Rt c os) = bnd ra fun ds => runM m_Route_call n (Rt c os :: ds) := insD_obj rfl
def Wd (k : Nat) (a : Int) : Prop := a.natAbs < 2 ^ k
theorem Wd.cm {k l : Nat} {a b : Int} (h : Wd k a) (g : Wd l b) (h0 : 0 < k) (h1 : 0 < l) (h2 : k + l ≤ 1000000) : L2.CMulW a b := L2.wide_mul h g h0 h1 h2
theorem wd_nat {a : Nat} (h : a ≤ 1000000000000000) : Wd 50 (a : Int) := by
  unfold Wd
  rw [Int.natAbs_natCast]
  exact Nat.lt_of_le_of_lt h (by decide)
theorem wd_amt {a : Int} (ha : 0 ≤ a ∧ a ≤ 1000000000000000000000000000000) : Wd 100 a := by
  unfold Wd
  exact Nat.lt_of_le_of_lt (show a.natAbs ≤ 1000000000000000000000000000000 by omega) (by decide)
/-- offices' products, from the front -/
theorem fold_mul {f : OfV → Nat} : ∀ {os : List OfV} {c : Nat}, os.foldl (fun x o => x * f o) c = c * os.foldl (fun x o => x * f o) 1
  | [], c => by simp
  | o :: os, c => by
    rw [List.foldl_cons, List.foldl_cons, fold_mul (c := c * f o), fold_mul (c := 1 * f o), Nat.one_mul, Nat.mul_assoc]
theorem rate_cons {os : List OfV} {o : OfV} : rateN (o :: os) = o.p.toNat * rateN os ∧ rateD (o :: os) = o.q.toNat * rateD os := by
  unfold rateN rateD
  rw [List.foldl_cons, List.foldl_cons, fold_mul, fold_mul (f := fun o => o.q.toNat), Nat.one_mul, Nat.one_mul]
  exact ⟨rfl, rfl⟩
end Lw
/-! K14p: results repeat; law k14 answers True. -/
namespace Lw
open PySem Dn Gn
open L2 hiding bin
def plainB : List OfV → Int → Bool
  | [], _ => true
  | o :: os, a => if a < o.least ∨ a * o.p / o.q < o.fee then false else plainB os (a * o.p / o.q - o.fee)
theorem plain_cons {o : OfV} {os : List OfV} {a : Int} : plainB (o :: os) a = if a < o.least ∨ a * o.p / o.q < o.fee then false else plainB os (a * o.p / o.q - o.fee) := rfl
theorem val_plain {o : OfV} (hm : o.most = none) {a : Int} (h : ¬ a * o.p / o.q < o.fee) : o.val a = a * o.p / o.q - o.fee := by
  unfold OfV.val OfV.cap
  rw [hm]
  show max 0 (a * o.p / o.q - o.fee) = _
  rw [Int.max_eq_right (by omega)]
theorem shift : ∀ {os : List OfV}, (∀ o ∈ os, o.Wf) → (∀ o ∈ os, o.most = none) → ∀ {a m : Int}, plainB os a = true → 0 ≤ m → ∃ b, runR os a = .inl b ∧ runR os (a + m * (rateD os : Nat)) = .inl (b + m * (rateN os : Nat))
  | [], _, _, a, m, _, _ => ⟨a, rfl, by simp [runR, rateD, rateN]⟩
  | o :: os, hw, hm, a, m, h, h0 => by
    have wo := hw o List.mem_cons_self
    have mo := hm o List.mem_cons_self
    obtain ⟨p, q, f, h1, h2, h3, b1, b2, b3, b4, b5⟩ := wo.pq
    unfold plainB at h
    split at h
    · cases h
    · rename_i hc
      have hc1 : ¬ a < o.least := fun z => hc (.inl z)
      have hc2 : ¬ a * o.p / o.q < o.fee := fun z => hc (.inr z)
      obtain ⟨b, e1, e2⟩ := shift (fun p hp => hw p (List.mem_cons_of_mem _ hp)) (fun p hp => hm p (List.mem_cons_of_mem _ hp)) (a := a * o.p / o.q - o.fee) (m := m * p) h (Int.mul_nonneg h0 (by omega))
      have hD : (0 : Int) ≤ m * (rateD (o :: os) : Nat) := Int.mul_nonneg h0 (Int.natCast_nonneg _)
      have es : (a + m * (rateD (o :: os) : Nat)) * o.p / o.q = a * o.p / o.q + m * p * (rateD os : Nat) := by
        rw [rate_cons.2, h1, h2, Int.toNat_natCast, Int.natCast_mul]
        have : (a + m * ((q : Int) * (rateD os : Nat))) * p = a * p + m * p * (rateD os : Nat) * q := by
          rw [Int.add_mul]
          congr 1
          ac_rfl
        rw [this, Int.add_mul_ediv_right _ _ (by omega)]
      have hs : 0 ≤ m * (p : Int) * (rateD os : Nat) := Int.mul_nonneg (Int.mul_nonneg h0 (by omega)) (Int.natCast_nonneg _)
      refine ⟨b, ?_, ?_⟩
      · unfold runR
        rw [if_neg hc1, val_plain mo hc2]
        exact e1
      · unfold runR
        rw [if_neg (by omega), val_plain mo (by omega), es]
        rw [show a * o.p / o.q + m * ↑p * ↑(rateD os) - o.fee = a * o.p / o.q - o.fee + m * p * (rateD os : Nat) by omega, e2, rate_cons.1, h1, Int.toNat_natCast, Int.natCast_mul]
        congr 2
        ac_rfl
theorem plain_far : ∀ (os : List OfV), (∀ o ∈ os, o.Wf) → ∀ {a : Int}, 2000 * 10 ^ os.length ≤ a → plainB os a = true
  | [], _, a, _ => rfl
  | o :: os, hw, a, h => by
    have wo := hw o List.mem_cons_self
    have hp := wo.p
    have hq := wo.q
    have hf := wo.fee
    have hl := wo.least
    rw [List.length_cons, Int.pow_succ] at h
    have hk : (1 : Int) ≤ 10 ^ os.length := by
      have e : (10 : Int) ^ os.length = ((10 ^ os.length : Nat) : Int) := by rw [Int.natCast_pow]; rfl
      have : 0 < 10 ^ os.length := Nat.pow_pos (by decide)
      rw [e]; omega
    have e1 : a / 9 ≤ a * o.p / o.q := by
      have : a / 9 * o.q ≤ a * o.p := by
        have m1 : a / 9 * o.q ≤ a / 9 * 9 := Int.mul_le_mul_of_nonneg_left (by omega) (by omega)
        have m2 : a / 9 * 9 ≤ a := Int.ediv_mul_le _ (by decide)
        have m3 : a * 1 ≤ a * o.p := Int.mul_le_mul_of_nonneg_left (by omega) (by omega)
        omega
      exact (Int.le_ediv_iff_mul_le (by omega)).mpr this
    unfold plainB
    rw [if_neg (by omega)]
    exact plain_far os (fun p hp => hw p (List.mem_cons_of_mem _ hp)) (by omega)
theorem am_next {k : Nat} {a : Int} {o : OfV} (h : AmX k a) (wo : o.Wf) (mo : o.most = none) (hc : ¬ a * o.p / o.q < o.fee) : AmX (k + 1) (a * o.p / o.q - o.fee) := by
  rw [← val_plain mo hc]
  exact h.val wo
local macro_rules | `(tactic| walk_at "st") => `(tactic| try simp only [ok_ret, ok_bnd, ok_bin, ok_var, varK_val, varK_own, pv_val, pv_own, ok_asB, asBK_bl, ok_andT, ok_orT, ok_notT, ok_iteT, ok_andV, ok_notV, blK_bl,
  ok_argN, ok_argC, ok_fits, ok_tupM, ok_lstM, ok_parN, ok_parS, intK_int, ok_slM, lstK_lst, ok_joinM, strK_str, ok_itemsM, ok_rngM, ok_seqM, seqK_nx, seqK_rt, seqK_ro, seqK_bk, seqK_ct, ok_ifM, ok_retM, ok_slO, ok_dropM, ok_skipM, ok_asgM, ok_par2, ok_par2VO, ok_par3,
  ok_callM, rtK_rt, rtK_ro, rtK_nx, ok_loopM, ok_lcM, ok_dispM, ok_prsN, ok_prsC, ok_hget0, getK_some, ok_hputM, putK0, pc, pb, pl, ppb, ppl, plen, ok_add, ok_addS, ok_addT, ok_addL, ok_sub, ok_mul, ok_ixL, ok_ixT, ok_unp, unpK_tup, ok_set0, ok_setC, ok_app, flK_nx, flK_ct, flK_bk, flK_rt, flK_ro, sl_L, sl_T, sl_S, it_L, it_T, wip, ok_div, ok_mod, ok_pow, ok_rep, ok_ord, ok_fInt, ok_fAbs, ok_lenL, ok_lenT, ok_lenS, ok_fListL, ok_fListT, ok_fTupleL, ok_fTupleT, ok_eqI, ok_eqB, ok_eqS,
  okF_ok, okF_exc, ok_runM, ok_appA, ok_len1, ok_argS, starK_tup, starK_lst, ok_chain, isNonB_non, isNonB_int, isNonB_bl, isNonB_str, isNonB_tup, isNonB_lst, isNonB_obj, ok_isN, ok_max, ok_min, isi_int_int, isi_int_bl, isi_int_non, isi_int_str, isi_int_tup, isi_int_lst, isi_bool_int, isi_bool_bl, isi_str_str, isi_str_int, isi_str_bl, isi_str_non, isi_str_tup, isi_str_lst, isi_tuple_tup, isi_tuple_int, isi_tuple_bl, isi_tuple_non, isi_tuple_str, isi_tuple_lst,
  ok_conM, ok_fputM, fputK_new, conV_new, ok_makeM, ok_methM, ok_insM, ok_raise,
  List.map_cons, List.map_nil, List.replicate_succ, List.replicate_zero, List.cons_append, List.nil_append, List.append_nil, List.getElem?_cons_zero, List.getElem?_cons_succ, List.set_cons_zero, List.set_cons_succ, Nat.reduceSub, decide_eq_true_eq, if_true, if_false, Bool.false_eq_true, Bool.not_true, Bool.not_false, beq_self_eq_true, Bool.true_eq_false, bne_self_eq_false, Bool.bne_true, Bool.bne_false, Nat.zero_add, Nat.reduceAdd, true_and, and_true, reduceCtorEq, List.length_cons, List.length_nil, row0, row1, row2, row3, row4, row5, row6, a20, a21])
local macro_rules | `(tactic| walk_at "sx") => `(tactic| try simp only [ok_ret, ok_bnd, ok_bin, ok_var, varK_val, varK_own, pv_val, pv_own, ok_asB, asBK_bl, ok_andT, ok_orT, ok_notT, ok_iteT, ok_andV, ok_notV, blK_bl,
  ok_argN, ok_argC, ok_fits, ok_tupM, ok_lstM, ok_parN, ok_parS, intK_int, ok_slM, lstK_lst, ok_joinM, strK_str, ok_itemsM, ok_rngM, seqK_nx, seqK_rt, seqK_ro, seqK_bk, seqK_ct, ok_ifM, ok_retM, ok_slO, ok_dropM, ok_skipM, ok_asgM, ok_par2, ok_par2VO, ok_par3,
  ok_callM, rtK_rt, rtK_ro, rtK_nx, ok_loopM, ok_lcM, ok_dispM, ok_prsN, ok_prsC, ok_hget0, getK_some, ok_hputM, putK0, pc, pb, pl, ppb, ppl, plen, ok_add, ok_addS, ok_addT, ok_addL, ok_sub, ok_mul, ok_ixL, ok_ixT, ok_unp, unpK_tup, ok_set0, ok_setC, ok_app, flK_nx, flK_ct, flK_bk, flK_rt, flK_ro, sl_L, sl_T, sl_S, it_L, it_T, wip, ok_div, ok_mod, ok_pow, ok_rep, ok_ord, ok_fInt, ok_fAbs, ok_lenL, ok_lenT, ok_lenS, ok_fListL, ok_fListT, ok_fTupleL, ok_fTupleT, ok_eqI, ok_eqB, ok_eqS,
  okF_ok, okF_exc, ok_runM, ok_appA, ok_len1, ok_argS, starK_tup, starK_lst, ok_chain, isNonB_non, isNonB_int, isNonB_bl, isNonB_str, isNonB_tup, isNonB_lst, isNonB_obj, ok_isN, ok_max, ok_min, isi_int_int, isi_int_bl, isi_int_non, isi_int_str, isi_int_tup, isi_int_lst, isi_bool_int, isi_bool_bl, isi_str_str, isi_str_int, isi_str_bl, isi_str_non, isi_str_tup, isi_str_lst, isi_tuple_tup, isi_tuple_int, isi_tuple_bl, isi_tuple_non, isi_tuple_str, isi_tuple_lst,
  ok_conM, ok_fputM, fputK_new, conV_new, ok_makeM, ok_methM, ok_insM, ok_raise,
  List.map_cons, List.map_nil, List.replicate_succ, List.replicate_zero, List.cons_append, List.nil_append, List.append_nil, List.getElem?_cons_zero, List.getElem?_cons_succ, List.set_cons_zero, List.set_cons_succ, Nat.reduceSub, decide_eq_true_eq, if_true, if_false, Bool.false_eq_true, Bool.not_true, Bool.not_false, beq_self_eq_true, Bool.true_eq_false, bne_self_eq_false, Bool.bne_true, Bool.bne_false, Nat.zero_add, Nat.reduceAdd, true_and, and_true, reduceCtorEq, List.length_cons, List.length_nil, row0, row1, row2, row3, row4, row5, row6, a20, a21])
set_option maxHeartbeats 4000000 in
theorem eq_is_plain {n : Nat} {os : List OfV} {a : Int} {st : List MO} (hw : ∀ o ∈ os, o.Wf) (hm : ∀ o ∈ os, o.most = none) (hl : os.length ≤ 1000) (ha : AmX 0 a) : m_law_is_plain n [.lst (os.map OfV.row), .int a] st = .ok (.bl (plainB os a)) st := by
  refine OkFx.eq ?_
  unfold m_law_is_plain
  refine okF_fnF rfl ?_
  unfold b_law_is_plain
  refine ok_seq ?_
  walk_at "sx"
  refine ok_seq ?_
  walk_at "sx"
  refine ok_for (fun j s => ∃ c e3, AmX j c ∧ plainB (os.drop j) c = plainB os a ∧ s = ⟨[some (SV.val (.lst (os.map OfV.row))), some (SV.val (.int a)), some (SV.val (.int c)), e3], st⟩) ⟨a, none, ha, rfl, rfl⟩ ?_ ?_
  · rintro j x s hx ⟨c, e3, hc, hpl, rfl⟩
    rw [List.getElem?_map] at hx
    obtain ⟨o, ho, rfl⟩ := Option.map_eq_some_iff.mp hx
    have hj := (List.getElem?_eq_some_iff.mp ho).1
    have wo := hw o (List.mem_of_getElem? ho)
    have mo := hm o (List.mem_of_getElem? ho)
    have hp := wo.p
    have hq := wo.q
    have hd : os.drop j = o :: os.drop (j + 1) := by
      obtain ⟨h1, h2⟩ := List.getElem?_eq_some_iff.mp ho
      rw [List.drop_eq_getElem_cons h1, h2]
    rw [hd, plain_cons] at hpl
    refine ok_seq ?_
    walk_at "sx"
    by_cases h1 : c < o.least
    · rw [if_pos (.inl h1)] at hpl
      rw [if_pos h1, ← hpl]
    · rw [if_neg h1]
      refine ⟨cmulX hc (by omega) (by omega), cdiv100 (by omega) (by omega), ?_⟩
      by_cases h2 : c * o.p / o.q < o.fee
      · rw [if_pos (.inr h2)] at hpl
        rw [if_pos h2, ← hpl]
      · rw [if_neg (fun z => z.elim h1 h2)] at hpl
        rw [if_neg h2]
        walk_at "sx"
        refine ⟨cmulX hc (by omega) (by omega), cdiv100 (by omega) (by omega), ?_⟩
        exact ⟨_, _, am_next hc wo mo h2, hpl, rfl⟩
  · rintro s ⟨c, e3, hc, hpl, rfl⟩
    rw [List.length_map, List.drop_length] at hpl
    walk_at "st"
    rw [← hpl]
    rfl
theorem p2 {i : Nat} (h : i ≤ 40) : 7 * ((2 : Int) ^ (i + 1) - 1) = 2 * (7 * ((2 : Int) ^ i - 1)) + 7 := by
  rw [Int.pow_succ]
  omega
local macro_rules | `(tactic| walk_at "st") => `(tactic| try simp only [ok_ret, ok_bnd, ok_bin, ok_var, varK_val, varK_own, pv_val, pv_own, ok_asB, asBK_bl, ok_andT, ok_orT, ok_notT, ok_iteT, ok_andV, ok_notV, blK_bl,
  ok_argN, ok_argC, ok_fits, ok_tupM, ok_lstM, ok_parN, ok_parS, intK_int, ok_slM, lstK_lst, ok_joinM, strK_str, ok_itemsM, ok_rngM, ok_seqM, seqK_nx, seqK_rt, seqK_ro, seqK_bk, seqK_ct, ok_ifM, ok_retM, ok_slO, ok_dropM, ok_skipM, ok_asgM, ok_par2, ok_par2VO, ok_par3,
  ok_callM, rtK_rt, rtK_ro, rtK_nx, ok_loopM, ok_lcM, ok_dispM, ok_prsN, ok_prsC, ok_hget0, getK_some, ok_hputM, putK0, pc, pb, pl, ppb, ppl, plen, ok_add, ok_addS, ok_addT, ok_addL, ok_sub, ok_mul, ok_ixL, ok_ixT, ok_unp, unpK_tup, ok_set0, ok_setC, ok_app, flK_nx, flK_ct, flK_bk, flK_rt, flK_ro, sl_L, sl_T, sl_S, it_L, it_T, wip, ok_div, ok_mod, ok_pow, ok_rep, ok_ord, ok_fInt, ok_fAbs, ok_lenL, ok_lenT, ok_lenS, ok_fListL, ok_fListT, ok_fTupleL, ok_fTupleT, ok_eqI, ok_eqB, ok_eqS,
  okF_ok, okF_exc, ok_runM, ok_appA, ok_len1, ok_argS, starK_tup, starK_lst, ok_chain, isNonB_non, isNonB_int, isNonB_bl, isNonB_str, isNonB_tup, isNonB_lst, isNonB_obj, ok_isN, ok_max, ok_min, isi_int_int, isi_int_bl, isi_int_non, isi_int_str, isi_int_tup, isi_int_lst, isi_bool_int, isi_bool_bl, isi_str_str, isi_str_int, isi_str_bl, isi_str_non, isi_str_tup, isi_str_lst, isi_tuple_tup, isi_tuple_int, isi_tuple_bl, isi_tuple_non, isi_tuple_str, isi_tuple_lst,
  ok_conM, ok_fputM, fputK_new, conV_new, ok_makeM, ok_methM, ok_insM, ok_raise,
  List.map_cons, List.map_nil, List.replicate_succ, List.replicate_zero, List.cons_append, List.nil_append, List.append_nil, List.getElem?_cons_zero, List.getElem?_cons_succ, List.set_cons_zero, List.set_cons_succ, Nat.reduceSub, decide_eq_true_eq, if_true, if_false, Bool.false_eq_true, Bool.not_true, Bool.not_false, beq_self_eq_true, Bool.true_eq_false, bne_self_eq_false, Bool.bne_true, Bool.bne_false, Nat.zero_add, Nat.reduceAdd, true_and, and_true, reduceCtorEq, List.length_cons, List.length_nil, row0, row1, row2, row3, row4, row5, row6, a20, a21, r_call])
local macro_rules | `(tactic| walk_at "sx") => `(tactic| try simp only [ok_ret, ok_bnd, ok_bin, ok_var, varK_val, varK_own, pv_val, pv_own, ok_asB, asBK_bl, ok_andT, ok_orT, ok_notT, ok_iteT, ok_andV, ok_notV, blK_bl,
  ok_argN, ok_argC, ok_fits, ok_tupM, ok_lstM, ok_parN, ok_parS, intK_int, ok_slM, lstK_lst, ok_joinM, strK_str, ok_itemsM, ok_rngM, seqK_nx, seqK_rt, seqK_ro, seqK_bk, seqK_ct, ok_ifM, ok_retM, ok_slO, ok_dropM, ok_skipM, ok_asgM, ok_par2, ok_par2VO, ok_par3,
  ok_callM, rtK_rt, rtK_ro, rtK_nx, ok_loopM, ok_lcM, ok_dispM, ok_prsN, ok_prsC, ok_hget0, getK_some, ok_hputM, putK0, pc, pb, pl, ppb, ppl, plen, ok_add, ok_addS, ok_addT, ok_addL, ok_sub, ok_mul, ok_ixL, ok_ixT, ok_unp, unpK_tup, ok_set0, ok_setC, ok_app, flK_nx, flK_ct, flK_bk, flK_rt, flK_ro, sl_L, sl_T, sl_S, it_L, it_T, wip, ok_div, ok_mod, ok_pow, ok_rep, ok_ord, ok_fInt, ok_fAbs, ok_lenL, ok_lenT, ok_lenS, ok_fListL, ok_fListT, ok_fTupleL, ok_fTupleT, ok_eqI, ok_eqB, ok_eqS,
  okF_ok, okF_exc, ok_runM, ok_appA, ok_len1, ok_argS, starK_tup, starK_lst, ok_chain, isNonB_non, isNonB_int, isNonB_bl, isNonB_str, isNonB_tup, isNonB_lst, isNonB_obj, ok_isN, ok_max, ok_min, isi_int_int, isi_int_bl, isi_int_non, isi_int_str, isi_int_tup, isi_int_lst, isi_bool_int, isi_bool_bl, isi_str_str, isi_str_int, isi_str_bl, isi_str_non, isi_str_tup, isi_str_lst, isi_tuple_tup, isi_tuple_int, isi_tuple_bl, isi_tuple_non, isi_tuple_str, isi_tuple_lst,
  ok_conM, ok_fputM, fputK_new, conV_new, ok_makeM, ok_methM, ok_insM, ok_raise,
  List.map_cons, List.map_nil, List.replicate_succ, List.replicate_zero, List.cons_append, List.nil_append, List.append_nil, List.getElem?_cons_zero, List.getElem?_cons_succ, List.set_cons_zero, List.set_cons_succ, Nat.reduceSub, decide_eq_true_eq, if_true, if_false, Bool.false_eq_true, Bool.not_true, Bool.not_false, beq_self_eq_true, Bool.true_eq_false, bne_self_eq_false, Bool.bne_true, Bool.bne_false, Nat.zero_add, Nat.reduceAdd, true_and, and_true, reduceCtorEq, List.length_cons, List.length_nil, row0, row1, row2, row3, row4, row5, row6, a20, a21, r_call])
set_option maxHeartbeats 8000000 in
theorem law_true (ns : List Int) (hns : ns.length ≤ 63) : ∃ n st, m_law n [.scr ns] [] = .ok (.bl true) st := by
  have hz : sizeLine = 16777216 := sizeLine_eq
  refine ⟨Big + 1, ?_⟩
  have hn : Big < Big + 1 := Nat.lt_succ_self _
  generalize Big + 1 = n at hn
  have hk : OkF (m_law n [.scr ns] []) (fun d _ => d = .bl true) := by
    unfold m_law
    refine okF_fnF rfl ?_
    unfold b_law
    refine ok_seq ?_
    walk_at "sx"
    refine sp_pen ?_
    generalize cutI ns none (some 63) = cells
    walk_at "sx"
    refine ok_seq ?_
    walk_at "sx"
    refine ⟨_, rngP_nat (by decide) (by decide), ?_⟩
    refine ok_for (fun j s => ∃ (es : List (Option SV)) (g st : List MO), s = ⟨[some (SV.val (.scr ns)), some (SV.val (.hnd 0))] ++ es, st⟩ ∧ es.length = 13 ∧ Pn cells (2000 * j) g st) ⟨List.replicate 13 none, [], [.dic (pen cells 0 0)], rfl, rfl, 0, 0, rfl, by decide, by decide, by decide⟩ ?_ ?_
    · rintro j x s hx ⟨es, g, st, rfl, hes, hp⟩
      obtain ⟨rfl, hj⟩ := rng_get hx
      obtain ⟨e2, e3, e4, e5, e6, e7, e8, e9, e10, e11, e12, e13, e14, rfl⟩ : ∃ a b c d e f a1 b1 c1 d1 ee f1 g1, es = [a, b, c, d, e, f, a1, b1, c1, d1, ee, f1, g1] := by
        match es, hes with
        | [a, b, c, d, e, f, a1, b1, c1, d1, ee, f1, g1], _ => exact ⟨a, b, c, d, e, f, a1, b1, c1, d1, ee, f1, g1, rfl⟩
      refine ok_seq ?_
      walk_at "sx"
      refine sp_draw hp (by omega) (by omega) fun r st1 hr0 hr1 hp1 => ?_
      walk_at "sx"
      refine sp_chain hp1 (by omega) (by omega) fun c os st3 hl hr hp3 => ?_
      walk_at "sx"
      refine ok_seq ?_
      walk_at "sx"
      refine ok_lcGo (fun i acc s => acc = ((os.take i).map OfV.un).map OfV.row ∧ ∃ e8, s = ⟨[some (SV.val (.scr ns)), some (SV.val (.hnd 0)), some (SV.val (.int j)), some (SV.val (.str c)), some (SV.val (.lst (os.map OfV.row))), e5, e6, e7, e8, e9, e10, e11, e12, e13, e14], st3⟩) ⟨by simp, _, rfl⟩ ?_ ?_
      · rintro i x acc s hx ⟨rfl, e8, rfl⟩
        rw [List.getElem?_map] at hx
        obtain ⟨o, ho, rfl⟩ := Option.map_eq_some_iff.mp hx
        have hi := (List.getElem?_eq_some_iff.mp ho).1
        walk_at "sx"
        simp only [OfV.row6]
        walk_at "sx"
        rw [row_cut]
        refine ⟨by omega, by simp; omega, by simp; omega, ?_⟩
        rw [List.take_add_one, ho]
        simp
        rfl
      · rintro acc s ⟨rfl, e8, rfl⟩
        rw [List.length_map, List.take_length]
        walk_at "sx"
        have hru : RtOk c (os.map OfV.un) := hr.un
        have hlu : (os.map OfV.un).length ≤ 4 := by rw [List.length_map]; omega
        have hmu : ∀ o ∈ os.map OfV.un, o.most = none := un_none
        generalize os.map OfV.un = us at hru hlu hmu
        walk_at "sx"
        refine ok_seq ?_
        walk_at "sx"
        refine sp_route hp3 hru (by omega) fun g' st4 hp4 => ?_
        walk_at "sx"
        refine ok_seq ?_
        walk_at "sx"
        refine ok_for (fun i s => ∃ e8, s = ⟨[some (SV.val (.scr ns)), some (SV.val (.hnd 0)), some (SV.val (.int j)), some (SV.val (.str c)), some (SV.val (.lst (us.map OfV.row))), some (SV.val (Rt c us)), some (SV.val (.int (rateN (us.take i) : Nat))), some (SV.val (.int (rateD (us.take i) : Nat))), e8, e9, e10, e11, e12, e13, e14], st4⟩) ⟨_, by rw [List.take_zero]; rfl⟩ ?_ ?_
        · rintro i x s hx ⟨e8, rfl⟩
          rw [List.getElem?_map] at hx
          obtain ⟨o, ho, rfl⟩ := Option.map_eq_some_iff.mp hx
          have e1 : us.take (i + 1) = us.take i ++ [o] := by rw [List.take_add_one, ho]; rfl
          have ht : ∀ p ∈ us.take i, p.Wf := fun p hp => hru.wf p (List.mem_of_mem_take hp)
          have rb := rateB (os := us.take i) (by rw [List.length_take]; omega) ht
          have r1 := rb.n
          have r2 := rb.d
          obtain ⟨p, q, f, h1, h2, h3, b⟩ := (hru.wf o (List.mem_of_getElem? ho)).pq
          walk_at "sx"
          refine ⟨(wd_nat (by omega)).cm (l := 20) (by unfold Wd; rw [h1]; omega) (by decide) (by decide) (by decide), (wd_nat (by omega)).cm (l := 20) (by unfold Wd; rw [h2]; omega) (by decide) (by decide) (by decide), ?_⟩
          rw [e1, rate_snoc.1, rate_snoc.2, h1, h2]
          exact ⟨_, rfl⟩
        · rintro s ⟨e8, rfl⟩
          rw [List.length_map, List.take_length]
          have rb := rateB (os := us) (by omega) hru.wf
          have r1 := rb.n
          have r2 := rb.d
          have sh : ∀ {a m : Int}, plainB us a = true → 0 ≤ m → _ := fun {a m} => shift hru.wf hmu (a := a) (m := m)
          generalize hN : rateN us = N at *
          generalize hD : rateD us = D at *
          walk_at "sx"
          refine ⟨_, rngP_nat (by decide) (by decide), ?_⟩
          refine ok_for (fun i s => ∃ (ea eb ec ed ee ef : Option SV) (st5 : List MO), s = ⟨[some (SV.val (.scr ns)), some (SV.val (.hnd 0)), some (SV.val (.int j)), some (SV.val (.str c)), some (SV.val (.lst (us.map OfV.row))), some (SV.val (Rt c us)), some (SV.val (.int N)), some (SV.val (.int D)), e8, ea, eb, ec, ed, ee, ef], st5⟩ ∧ Pn cells (2000 * j + 700 + 300 * i) g' st5) ⟨_, _, _, _, _, _, st4, rfl, hp4.mono (by omega)⟩ ?_ ?_
          · rintro i x s hx ⟨ea, eb, ec, ed, ee, ef, st5, rfl, hp5⟩
            obtain ⟨rfl, hi⟩ := rng_get hx
            refine ok_seq ?_
            walk_at "sx"
            refine ⟨by (show L2.CPow _ _; decide +kernel), ?_⟩
            refine sp_route_amount hp5 (by omega) hru.wf fun a st6 a0 a1 hp6 => ?_
            walk_at "sx"
            have e25 : (10 : Int) ^ (25 : Int).toNat = 10000000000000000000000000 := by decide
            rw [e25]
            refine ok_seq ?_
            walk_at "sx"
            refine ⟨_, rngP_nat (by decide) (by decide), ?_⟩
            refine ok_for (fun k s => ∃ (x : Int) (eb : Option SV), s = ⟨[some (SV.val (.scr ns)), some (SV.val (.hnd 0)), some (SV.val (.int j)), some (SV.val (.str c)), some (SV.val (.lst (us.map OfV.row))), some (SV.val (Rt c us)), some (SV.val (.int N)), some (SV.val (.int D)), e8, some (SV.val (.int i)), some (SV.val (.int x)), eb, ed, ee, ef], st6⟩ ∧ (0 ≤ x ∧ x ≤ 10000000000000000000000000) ∧ (plainB us x = true ∨ 7 * ((2 : Int) ^ k - 1) ≤ x)) ⟨_, _, by rfl, ⟨by omega, by omega⟩, .inr (by simp; omega)⟩ ?_ ?_
            · rintro k y s hx ⟨x, eb, rfl, hx1, hx2⟩
              obtain ⟨rfl, hk⟩ := rng_get hx
              walk_at "sx"
              rw [eq_is_plain hru.wf hmu (by omega) (AmX.zero ⟨by omega, by omega⟩)]
              walk_at "sx"
              cases hp : plainB us x with
              | true =>
                walk_at "sx"
                exact ⟨_, _, rfl, hx1, .inl hp⟩
              | false =>
                walk_at "sx"
                have hlt : x < 20000000 := by
                  refine Int.not_le.mp fun hle => ?_
                  have := plain_far us hru.wf (a := x) (by
                    have q1 : (10 : Int) ^ us.length = ((10 ^ us.length : Nat) : Int) := by rw [Int.natCast_pow]; rfl
                    have q2 : 10 ^ us.length ≤ 10 ^ 4 := Nat.pow_le_pow_right (by decide) hlu
                    rw [q1]; omega)
                  rw [this] at hp; cases hp
                refine ⟨cmul100 (by omega) (by omega), ?_⟩
                refine ⟨_, _, rfl, ⟨by omega, by omega⟩, .inr ?_⟩
                rw [p2 (by omega)]
                rcases hx2 with z | z
                · rw [hp] at z; cases z
                · omega
            · rintro s ⟨x, eb, rfl, hx1, hx2⟩
              have hpl : plainB us x = true := by
                rcases hx2 with z | z
                · exact z
                · refine plain_far us hru.wf (a := x) ?_
                  have q1 : (10 : Int) ^ us.length = ((10 ^ us.length : Nat) : Int) := by rw [Int.natCast_pow]; rfl
                  have q2 : 10 ^ us.length ≤ 10 ^ 4 := Nat.pow_le_pow_right (by decide) hlu
                  have z : 7 * ((2 : Int) ^ 40 - 1) ≤ x := by simpa using z
                  rw [q1]; omega
              walk_at "sx"
              refine ok_seq ?_
              walk_at "sx"
              rw [eq_is_plain hru.wf hmu (by omega) (AmX.zero ⟨by omega, by omega⟩), hpl]
              walk_at "sx"
              refine ok_seq ?_
              walk_at "sx"
              refine sp_draw hp6 (by omega) (by omega) fun d1 st7 d10 d11 hp7 => ?_
              refine sp_digits (k := 9) hp7 (by decide) (by omega) fun d2 st8 d20 d21 hp8 => ?_
              refine sp_digits (k := 20) hp8 (by decide) (by omega) fun d3 st9 d30 d31 hp9 => ?_
              have d21 : d2 < 1000000000 := d21
              have d31 : d3 < 100000000000000000000 := d31
              refine ⟨by omega, ?_⟩
              refine sp_pickL hp9 (by simp) (by omega) fun v st10 hv hp10 => ?_
              obtain ⟨m, rfl, m0, m1⟩ : ∃ m : Int, v = .int m ∧ 0 ≤ m ∧ m ≤ 100000000000000000000 := by
                simp only [List.mem_cons, List.not_mem_nil, or_false] at hv
                rcases hv with rfl | rfl | rfl | rfl | rfl
                all_goals exact ⟨_, rfl, by omega, by omega⟩
              obtain ⟨b, s1, s2⟩ := sh hpl m0
              have b0 := runR_nn hx1.1 s1
              have wm : Wd 100 m := wd_amt ⟨m0, by omega⟩
              have hmD : 0 ≤ m * (D : Int) := Int.mul_nonneg m0 (by omega)
              walk_at "sx"
              refine ok_seq ?_
              walk_at "sx"
              refine ⟨wm.cm (wd_nat (by omega)) (by decide) (by decide) (by decide), ?_⟩
              refine ok_seq ?_
              walk_at "sx"
              rw [eq_Route_call hru.wf ⟨by omega, by omega⟩ (by omega) (by unfold Big at hn; omega), s1]
              walk_at "sx"
              refine ⟨wm.cm (wd_nat (by omega)) (by decide) (by decide) (by decide), ?_⟩
              refine ⟨by (show L2.CPow _ _; decide +kernel), ?_⟩
              have e30 : (10 : Int) ^ (30 : Int).toNat = 1000000000000000000000000000000 := by decide
              rw [e30]
              by_cases hh : x + m * (D : Int) ≤ 1000000000000000000000000000000
              · rw [if_pos (by simpa using hh)]
                rw [eq_Route_call hru.wf ⟨by omega, hh⟩ (by omega) (by unfold Big at hn; omega), s2]
                walk_at "sx"
                exact ⟨_, _, _, _, _, _, _, rfl, hp10.mono (by simp; omega)⟩
              · rw [if_neg (by simpa using hh)]
                exact ⟨_, _, _, _, _, _, _, rfl, hp10.mono (by simp; omega)⟩
          · rintro s ⟨ea, eb, ec, ed, ee, ef, st5, rfl, hp5⟩
            walk_at "sx"
            exact ⟨_, _, _, rfl, rfl, hp5.mono (by simp; omega)⟩
    · rintro s ⟨es, g, st, rfl, hes, hp⟩
      walk_at "st"
  obtain ⟨d, st, e, rfl⟩ := hk.ex
  exact ⟨st, e⟩
end Lw
open PySem PySem.W PySem.Calls PyProof.Rows
set_option maxRecDepth 100000 in
set_option maxHeartbeats 0 in
theorem PySem.Challenge.cw_rounddown_k14_whole_results_repeat_holds : PySem.Challenge.rw_rounddown_k14_whole_results_repeat.Holds := by
  w_on; o_law
  refine HandSHeadRun.head_any (r := OpenLaw.row PySem.Challenge.rw_rounddown_k14_whole_results_repeat) (q := view (OpenLaw.row PySem.Challenge.rw_rounddown_k14_whole_results_repeat).prog [45]) (H := Lw.hk) (ob := Lw.ob) (M := 40000) (loose := Lw.nms) (d := HandSHeadRun.topDef (OpenLaw.row PySem.Challenge.rw_rounddown_k14_whole_results_repeat).prog 45) (kwd := []) Lw.ob_eq
    (by kernel_rfl) (fun s => by kernel_rfl) Lw.run (by kernel_rfl) (by kernel_rfl) (by kernel_rfl) (by rfl) (by first | assumption | decide +kernel) (by decide +kernel) ⟨rfl, rfl, rfl, rfl, rfl, by decide +kernel⟩ ?hw ?hc
  case hw => w_witness2
  case hc =>
    refine Dn.law_denE (l := PySem.Challenge.rw_rounddown_k14_whole_results_repeat) (k := 8) (x := "_law_script") (m := Lw.m_law) rfl (by kernel_rfl) ⟨rfl, by decide, by decide⟩ ?F (fun ns h _ => Lw.law_true ns h)
    intro w mg fa h Y G hmg0
    obtain ⟨K, KX, c⟩ := Y
    have hmg : mg ("law" : PySem.Str) = some (.ref fa) := by
      have e : (HandSHeadRun.topDef (OpenLaw.row PySem.Challenge.rw_rounddown_k14_whole_results_repeat).prog 45).name = ("law" : PySem.Str) := by kernel_rfl
      rw [← e]
      exact hmg0
    exact ⟨K, KX, Lw.facts KX G hmg c⟩
