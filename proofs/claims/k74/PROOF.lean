import PyProof.Rows.All
import Wide.All
import OpenK.AllK
import Wide.FinOn
import HandS.ForMost
import HandS.Exc
import HandS.Deep
import HandS.TupAny
import HandS.Style
import HandS.Wide
import HandS.Iter
import HandS.ExcOwn
import KE.KSortKeySt
import KE.KSortedM
import HandS.Property
import HandS.MakeKwOnly
import HandS.Star
import HandS.IsInst
import HandS.ExcInit
import HandS.TryOnly
import HandS.ClsMeth
import HandS.Nested
import KE.KSuper
import HandS.Codes
import PyProof.InstNe
import HandS.FStr
import HandS.RaiseMore
import HandS.Flow
import HandS.ExcIs
import HandS.ExcField
import KE.KExcIs
import KE.GoesEnum
import KE.KOpsOwn
import HandS.NoneIn
import HandS.EndTab
import KE.KCallOwn
import PyProof.FactsLen
import PyProof.Calls
import PySem.Challenge.RW_rounddown_k74_whole_better_routes_chain
import KE.KIntText
set_option Elab.async false
set_option linter.all false
set_option maxRecDepth 100000
/-! Den1: a law's code as a computation over values: what the heap holds is said once, here. -/
namespace Dn
open PySem L2
/-- a value as data -/
inductive PV where
  | non | bl (b : Bool) | int (i : Int) | str (s : Str) | tup (xs : List PV) | lst (xs : List PV) | scr (xs : List Int) | hnd (n : Nat) | obj (c : Str) (ks : List Str) (vs : List PV) | exn (c : Str) (ks : List Str) (vs : List PV) | dic (kvs : List (Str × Int))
/-- what a handle holds: a dict that changes -/
inductive MO where
  | dic (kvs : List (Key × PV))
  | ins (c : Str) (ks : List Str) (vs : List PV)
  | own (n : Nat)
  | gone
/-- what is frozen, and where the handles stand -/
structure Vw where
  F : Hp
  hs : List Addr
structure Vw.Le (W W' : Vw) : Prop where
  ex : Same W.F W'.F
  pre : ∀ (n : Nat) (a : Addr), W.hs[n]? = some a → W'.hs[n]? = some a
theorem Vw.Le.refl (W : Vw) : W.Le W := ⟨Same.refl _, fun _ _ h => h⟩
theorem Vw.Le.trans {W W1 W2 : Vw} (a : W.Le W1) (b : W1.Le W2) : W.Le W2 := ⟨a.ex.trans b.ex, fun n x h => b.pre n x (a.pre n x h)⟩
/-- an exception object as a tracked thing: its class, its dict -/
def exv (a : Addr) (cls : Value) (d : Option Addr) : HO := .ext fun h => ∃ (oe : Obj) (vs : Array Value), h.get? a = some oe ∧ Zc cls d oe ∧ oe.data = .fields vs
/-- the class of that name -/
def ClsAt (K : PySem.W.Frag) (c : Str) (C : Addr) : Prop := PySem.W.nsIn K mainGlobals c = some (some (.ref C))
mutual
inductive Rep (K : PySem.W.Frag) (W : Vw) : V → PV → Prop
  | non : Rep K W .non .non
  | bl (b : Bool) : Rep K W (.bl b) (.bl b)
  | int (i : Int) : Rep K W (.int i) (.int i)
  | str (s : Str) : Rep K W (.str s) (.str s)
  | tup {a : Addr} {vs : List V} {ds : List PV} : SqT K W.F a vs → Reps K W vs ds → Rep K W (.ref a) (.tup ds)
  | lst {a : Addr} {vs : List V} {ds : List PV} : W.F a = some (.lst vs) → Reps K W vs ds → Rep K W (.ref a) (.lst ds)
  | scr {a : Addr} {ns : List Int} : SqL K W.F a (ns.map V.int) → Rep K W (.ref a) (.scr ns)
  | hnd {a : Addr} {n : Nat} : W.hs[n]? = some a → Rep K W (.ref a) (.hnd n)
  | obj {x C dx : Addr} {c : Str} {ks : List Str} {us : List V} {vs : List PV} : ClsAt K c C → W.F x = some (.ins C dx (ks.zip us)) → W.F dx = some (.own x) → ks.length = vs.length → Reps K W us vs → Rep K W (.ref x) (.obj c ks vs)
  | exn {x C dx : Addr} {c : Str} {ks : List Str} {us : List V} {vs : List PV} : ClsAt K c C → W.F x = some (exv x (.ref C) (some dx)) → W.F dx = some (.xd (ks.zip us)) → ks.length = vs.length → Reps K W us vs → Rep K W (.ref x) (.exn c ks vs)
  | dic {a : Addr} {kvs : List (Str × Int)} : W.F a = some (.dK (kvs.map fun p => (Sum.inr p.1, V.int p.2))) → Rep K W (.ref a) (.dic kvs)
inductive Reps (K : PySem.W.Frag) (W : Vw) : List V → List PV → Prop
  | nil : Reps K W [] []
  | cons {v : V} {vs : List V} {d : PV} {ds : List PV} : Rep K W v d → Reps K W vs ds → Reps K W (v :: vs) (d :: ds)
end
theorem same_t {K : PySem.W.Frag} {H H' : Hp} {a : Addr} {xs : List V} (e : Same H H') (h : SqT K H a xs) : SqT K H' a xs := by
  rcases h with (h | ⟨o, h⟩) | h
  · exact .inl (.inl (e _ _ h))
  · exact .inl (.inr ⟨o, e _ _ h⟩)
  · exact .inr h
mutual
theorem Rep.mono {K : PySem.W.Frag} {W W' : Vw} (l : W.Le W') : ∀ {v : V} {d : PV}, Rep K W v d → Rep K W' v d
  | _, _, .non => .non
  | _, _, .bl b => .bl b
  | _, _, .int i => .int i
  | _, _, .str s => .str s
  | _, _, .tup h r => .tup (same_t l.ex h) (Reps.mono l r)
  | _, _, .lst h r => .lst (l.ex _ _ h) (Reps.mono l r)
  | _, _, .scr h => .scr (l.ex.seq h)
  | _, _, .hnd h => .hnd (l.pre _ _ h)
  | _, _, .obj c h d n r => .obj c (l.ex _ _ h) (l.ex _ _ d) n (Reps.mono l r)
  | _, _, .exn c h d n r => .exn c (l.ex _ _ h) (l.ex _ _ d) n (Reps.mono l r)
  | _, _, .dic h => .dic (l.ex _ _ h)
theorem Reps.mono {K : PySem.W.Frag} {W W' : Vw} (l : W.Le W') : ∀ {vs : List V} {ds : List PV}, Reps K W vs ds → Reps K W' vs ds
  | _, _, .nil => .nil
  | _, _, .cons h r => .cons (Rep.mono l h) (Reps.mono l r)
end
section
variable {K : PySem.W.Frag} {W : Vw}
theorem Reps.length : ∀ {vs : List V} {ds : List PV}, Reps K W vs ds → vs.length = ds.length
  | _, _, .nil => rfl
  | _, _, .cons _ r => congrArg Nat.succ (Reps.length r)
theorem Reps.append : ∀ {vs ws : List V} {ds es : List PV}, Reps K W vs ds → Reps K W ws es → Reps K W (vs ++ ws) (ds ++ es)
  | _, _, _, _, .nil, s => s
  | _, _, _, _, .cons h r, s => .cons h (Reps.append r s)
theorem Reps.get : ∀ {vs : List V} {ds : List PV} {i : Nat} {d : PV}, Reps K W vs ds → ds[i]? = some d → ∃ v, vs[i]? = some v ∧ Rep K W v d
  | _, _, i, _, .nil, e => by simp at e
  | _, _, 0, _, .cons h _, e => by simp at e; subst e; exact ⟨_, rfl, h⟩
  | _, _, i + 1, d, .cons _ r, e => by
    obtain ⟨v, h1, h2⟩ := Reps.get (i := i) (d := d) r (by simpa using e)
    exact ⟨v, by simpa using h1, h2⟩
theorem Reps.getV : ∀ {vs : List V} {ds : List PV} {i : Nat} {v : V}, Reps K W vs ds → vs[i]? = some v → ∃ d, ds[i]? = some d ∧ Rep K W v d
  | _, _, i, _, .nil, e => by simp at e
  | _, _, 0, _, .cons h _, e => by simp at e; subst e; exact ⟨_, rfl, h⟩
  | _, _, i + 1, d, .cons _ r, e => by
    obtain ⟨v, h1, h2⟩ := Reps.getV (i := i) (v := d) r (by simpa using e)
    exact ⟨v, by simpa using h1, h2⟩
theorem Reps.take : ∀ {vs : List V} {ds : List PV} (n : Nat), Reps K W vs ds → Reps K W (vs.take n) (ds.take n)
  | _, _, 0, _ => .nil
  | _, _, _ + 1, .nil => .nil
  | _, _, n + 1, .cons h r => .cons h (Reps.take n r)
theorem Reps.drop : ∀ {vs : List V} {ds : List PV} (n : Nat), Reps K W vs ds → Reps K W (vs.drop n) (ds.drop n)
  | _, _, 0, r => r
  | _, _, _ + 1, .nil => .nil
  | _, _, n + 1, .cons _ r => Reps.drop n r
theorem Reps.rev : ∀ {vs : List V} {ds : List PV}, Reps K W vs ds → Reps K W vs.reverse ds.reverse
  | _, _, .nil => .nil
  | _, _, .cons h r => by
    rw [List.reverse_cons, List.reverse_cons]
    exact (Reps.rev r).append (.cons h .nil)
theorem Reps.set {v : V} {d : PV} (q : Rep K W v d) : ∀ {vs : List V} {ds : List PV} (n : Nat), Reps K W vs ds → Reps K W (vs.set n v) (ds.set n d)
  | _, _, _, .nil => .nil
  | _, _, 0, .cons _ r => .cons q r
  | _, _, n + 1, .cons h r => .cons h (Reps.set q n r)
theorem Reps.rep {vs : List V} {ds : List PV} (r : Reps K W vs ds) : ∀ n : Nat, Reps K W (List.replicate n vs).flatten (List.replicate n ds).flatten
  | 0 => .nil
  | n + 1 => by
    rw [List.replicate_succ, List.replicate_succ, List.flatten_cons, List.flatten_cons]
    exact r.append (Reps.rep r n)
theorem Reps.ints : ∀ (ns : List Int), Reps K W (ns.map V.int) (ns.map PV.int)
  | [] => .nil
  | n :: ns => .cons (.int n) (Reps.ints ns)
/-- the values of texts are texts -/
theorem Reps.of_strs : ∀ {vs : List V} {ns : List Str}, Reps K W vs (ns.map PV.str) → vs = ns.map V.str
  | _, [], .nil => rfl
  | _, n :: ns, .cons h r => by
    cases h
    rw [Reps.of_strs r]
    rfl
theorem Reps.of_ints : ∀ {vs : List V} {ns : List Int}, Reps K W vs (ns.map PV.int) → vs = ns.map V.int
  | _, [], .nil => rfl
  | _, n :: ns, .cons h r => by
    cases h
    rw [Reps.of_ints r]
    rfl
theorem Reps.of_bls : ∀ {vs : List V} {ns : List Bool}, Reps K W vs (ns.map PV.bl) → vs = ns.map V.bl
  | _, [], .nil => rfl
  | _, n :: ns, .cons h r => by
    cases h
    rw [Reps.of_bls r]
    rfl
end
/-! ### a dict's pairs -/
inductive KVs (K : PySem.W.Frag) (W : Vw) : List (Key × V) → List (Key × PV) → Prop
  | nil : KVs K W [] []
  | cons {k : Key} {v : V} {d : PV} {r : List (Key × V)} {s : List (Key × PV)} : Rep K W v d → KVs K W r s → KVs K W ((k, v) :: r) ((k, d) :: s)
theorem KVs.mono {K : PySem.W.Frag} {W W' : Vw} (l : W.Le W') : ∀ {r : List (Key × V)} {s : List (Key × PV)}, KVs K W r s → KVs K W' r s
  | _, _, .nil => .nil
  | _, _, .cons h r => .cons (h.mono l) (KVs.mono l r)
/-- what a handle's object is in the heap -/
inductive MRep (K : PySem.W.Frag) (W : Vw) (H : Hp) (a : Addr) : MO → Prop
  | dic {kvs : List (Key × V)} {ds : List (Key × PV)} : H a = some (.dK kvs) → KVs K W kvs ds → MRep K W H a (.dic ds)
  | ins {C dx : Addr} {n : Nat} {c : Str} {ks : List Str} {us : List V} {vs : List PV} : ClsAt K c C → H a = some (.ins C dx (ks.zip us)) → W.hs[n]? = some a → W.hs[n + 1]? = some dx → ks.length = vs.length → Reps K W us vs → MRep K W H a (.ins c ks vs)
  | own {n : Nat} {x : Addr} : W.hs[n]? = some x → H a = some (.own x) → MRep K W H a (.own n)
/-! ### the state of a body -/
inductive SV where
  | val (d : PV)
  | own (xs : List PV)
abbrev Env := List (Option SV)
structure S where
  env : Env
  sto : List MO
structure Ctx where
  G : Hp
  F0 : Hp
  hs0 : List Addr
  X : WX
abbrev Ctx.wi (C : Ctx) (Y : WX) : Ctx := { C with X := Y }
/-- a handle's place: live, or frozen long ago -/
def Hd (K : PySem.W.Frag) (W : Vw) (st : List MO) (H : Hp) (n : Nat) (a : Addr) : Prop := (W.F a = none ∧ ∃ mo, st[n]? = some mo ∧ MRep K W H a mo) ∨ (W.F a ≠ none ∧ st[n]? = some .gone)
structure Okk (K : PySem.W.Frag) (W : Vw) (st : List MO) (H : Hp) : Prop where
  sub : Same W.F H
  hnd : ∀ (n : Nat) (a : Addr), W.hs[n]? = some a → Hd K W st H n a
  nd : W.hs.Nodup
  len : st.length = W.hs.length
structure Owns (C : Ctx) (W : Vw) (a : Addr) : Prop where
  f : W.F a = none
  h : a ∉ W.hs
  g : C.G a = none
structure At (K : PySem.W.Frag) (C : Ctx) (W : Vw) (s : S) (σ : L2.St) (H : Hp) : Prop where
  ok : Okk K W s.sto H
  keep : ∀ a o, C.G a = some o → a ∉ C.hs0 → H a = some o
  pre : ∀ (n : Nat) (a : Addr), C.hs0[n]? = some a → W.hs[n]? = some a
  gro : ∀ a, C.G a ≠ none → W.F a = C.F0 a ∧ (a ∈ W.hs → a ∈ C.hs0)
  len : σ.length = s.env.length
  val : ∀ (i : Nat) (d : PV), s.env[i]? = some (some (.val d)) → ∃ v, σ[i]? = some (some v) ∧ Rep K W v d
  own : ∀ (i : Nat) (xs : List PV), s.env[i]? = some (some (.own xs)) → ∃ a vs, σ[i]? = some (some (.ref a)) ∧ Owns C W a ∧ H a = some (.lst vs) ∧ Reps K W vs xs
  dst : ∀ (i j : Nat) (xs ys : List PV) (a : Addr), s.env[i]? = some (some (.own xs)) → s.env[j]? = some (some (.own ys)) → σ[i]? = some (some (.ref a)) → σ[j]? = some (some (.ref a)) → i = j
theorem At.wi {K : PySem.W.Frag} {C : Ctx} {W : Vw} {s : S} {σ : L2.St} {H : Hp} (h : At K C W s σ H) (Y : WX) : At K (C.wi Y) W s σ H := ⟨h.ok, h.keep, h.pre, h.gro, h.len, h.val, fun i xs e => let ⟨a, vs, e1, ow, r⟩ := h.own i xs e; ⟨a, vs, e1, ⟨ow.f, ow.h, ow.g⟩, r⟩, h.dst⟩
/-- an exception's object, as data -/
inductive ERep (K : PySem.W.Frag) (W : Vw) : Value → Option Addr → PV → Prop
  | own {C dx : Addr} {c : Str} {ks : List Str} {us : List V} {vs : List PV} : ClsAt K c C → W.F dx = some (.xd (ks.zip us)) → ks.length = vs.length → Reps K W us vs → ERep K W (.ref C) (some dx) (.obj c ks vs)
  | blt {T : String} {d : Option Addr} : ERep K W (.type T) d (.tup [.str T])
/-! ### computations -/
inductive Res (τ α : Type) where
  | ok (a : α) (s : τ)
  | exc (e : PV) (s : τ)
  | stk
abbrev M (α : Type) := S → Res S α
def bnd {α β : Type} (c : M α) (f : α → M β) : M β := fun s => match c s with
  | .ok a s' => f a s'
  | .exc e s' => .exc e s'
  | .stk => .stk
def ret {α : Type} (a : α) : M α := fun s => .ok a s
def stuck {α : Type} : M α := fun _ => .stk
/-- a partial answer -/
def lft {α : Type} (o : Option α) : M α := fun s => match o with
  | some a => .ok a s
  | none => .stk
section
variable {K : PySem.W.Frag} {C : Ctx} {W W' : Vw} {σ : L2.St} {H : Hp} {s : S} {α β : Type}
/-- what is wanted of an answer -/
def Pst (K : PySem.W.Frag) (C : Ctx) (W : Vw) (σ : L2.St) (r : Res S α) (Q : α → S → Vw → Hp → Prop) : Prop := match r with
  | .ok a s' => ∀ W' H', W.Le W' → At K C W' s' σ H' → Q a s' W' H'
  | .exc e s' => ∀ W' σ' H' cls d, W.Le W' → At K C W' s' σ' H' → ERep K W' cls d e → C.X cls d σ' H'
  | .stk => False
theorem Pst.imp {r : Res S α} {Q Q' : α → S → Vw → Hp → Prop} (h : Pst K C W σ r Q) (f : ∀ a s' W' H', W.Le W' → At K C W' s' σ H' → Q a s' W' H' → Q' a s' W' H') : Pst K C W σ r Q' := by
  cases r with
  | ok a s' => exact fun W' H' l at' => f a s' W' H' l at' (h W' H' l at')
  | exc => exact h
  | stk => exact h
theorem Pst.up {r : Res S α} {Q : α → S → Vw → Hp → Prop} (l : W.Le W') (h : Pst K C W σ r Q) : Pst K C W' σ r Q := by
  cases r with
  | ok a s' => exact fun W2 H2 l2 at2 => h W2 H2 (l.trans l2) at2
  | exc e s' => exact fun W2 σ2 H2 cls d l2 at2 r => h W2 σ2 H2 cls d (l.trans l2) at2 r
  | stk => exact h
theorem Pst.bnd {c : M α} {f : α → M β} {Q : β → S → Vw → Hp → Prop} (h : Pst K C W σ (bnd c f s) Q) : Pst K C W σ (c s) (fun a s1 W1 _ => Pst K C W1 σ (f a s1) Q) := by
  unfold Dn.bnd at h
  cases e : c s with
  | ok a s1 =>
    rw [e] at h
    exact fun W1 H1 l _ => h.up l
  | exc => rw [e] at h; exact h
  | stk => rw [e] at h; exact h
/-- an expression's reading: it answers as c does -/
def den (K : PySem.W.Frag) (Y : WX) (c : M PV) : TE := fun σ H Q => ∃ (C : Ctx) (W : Vw) (s : S), At K (C.wi Y) W s σ H ∧ Pst K (C.wi Y) W σ (c s) (fun d _ W' H' => ∀ v, Rep K W' v d → Q v H')
/-- a test's -/
def denT (K : PySem.W.Frag) (Y : WX) (c : M Bool) : TT := fun σ H Q => ∃ (C : Ctx) (W : Vw) (s : S), At K (C.wi Y) W s σ H ∧ Pst K (C.wi Y) W σ (c s) (fun b _ _ H' => Q b H')
/-- arguments' -/
def denA (K : PySem.W.Frag) (Y : WX) (c : M (List PV)) : TA := fun σ H Q => ∃ (C : Ctx) (W : Vw) (s : S), At K (C.wi Y) W s σ H ∧ Pst K (C.wi Y) W σ (c s) (fun ds _ W' H' => ∀ vs, Reps K W' vs ds → Q vs H')
/-- an expression that makes a new list, nobody's yet -/
def denO (K : PySem.W.Frag) (Y : WX) (c : M (List PV)) : TE := fun σ H Q => ∃ (C : Ctx) (W : Vw) (s : S), At K (C.wi Y) W s σ H ∧ Pst K (C.wi Y) W σ (c s) (fun ds _ W' H' => ∀ p vs, H' p = none → Reps K W' vs ds → Q (.ref p) (upd H' p (.lst vs)))
inductive Fl where
  | nx | rt (d : PV) | bk | ct
/-- a statement's: the slots may change -/
def PstS (K : PySem.W.Frag) (C : Ctx) (W : Vw) (D : Ends) (r : Res S Fl) : Prop := match r with
  | .ok fl s' => ∀ W' σ' H', W.Le W' → At K C W' s' σ' H' → (match fl with
    | .nx => D.nx σ' H'
    | .rt d => ∀ v, Rep K W' v d → D.rt v H'
    | .bk => D.bk σ' H'
    | .ct => D.ct σ' H')
  | .exc e s' => ∀ W' σ' H' cls d, W.Le W' → At K C W' s' σ' H' → ERep K W' cls d e → C.X cls d σ' H'
  | .stk => False
def denS (K : PySem.W.Frag) (Y : WX) (c : M Fl) : TS := fun D σ H => ∃ (C : Ctx) (W : Vw) (s : S), At K (C.wi Y) W s σ H ∧ PstS K (C.wi Y) W D (c s)
end
theorem pe_imp {X : Cx} {e : Expr} {t t' : TE} (h : PE X e t) (f : ∀ σ H Q, t' σ H Q → t σ H Q) : PE X e t' := ⟨fun pins s σ H Q I q => h.run pins s σ H Q I (f σ H Q q)⟩
theorem pt_imp {X : Cx} {e : Expr} {t t' : TT} (h : PT X e t) (f : ∀ σ H Q, t' σ H Q → t σ H Q) : PT X e t' := ⟨fun pins s σ H Q I q => h.run pins s σ H Q I (f σ H Q q)⟩
theorem pw_imp {X : Cx} {e : Expr} {t t' : TT} (h : PW X e t) (f : ∀ σ H Q, t' σ H Q → t σ H Q) : PW X e t' := ⟨fun wh pins s σ H Q I q => h.run wh pins s σ H Q I (f σ H Q q)⟩
theorem pa_imp {X : Cx} {e : List Expr} {t t' : TA} (h : PA X e t) (f : ∀ σ H Q, t' σ H Q → t σ H Q) : PA X e t' := ⟨fun pos pins s σ H Q I q => h.run pos pins s σ H Q I (f σ H Q q)⟩
theorem ps_imp {X : Cx} {e : Stmt} {t t' : TS} (h : PS X e t) (f : ∀ D σ H, t' D σ H → t D σ H) : PS X e t' := ⟨fun pins s σ H D I q => h.run pins s σ H D I (f D σ H q)⟩
theorem pss_imp {X : Cx} {e : List Stmt} {t t' : TS} (h : PSs X e t) (f : ∀ D σ H, t' D σ H → t D σ H) : PSs X e t' := ⟨fun pins s σ H D I q => h.run pins s σ H D I (f D σ H q)⟩
/-! ### the state changes -/
section
variable {K : PySem.W.Frag} {C : Ctx} {W W' : Vw} {σ : L2.St} {H : Hp} {s : S} {p a : Addr} {o : HO} {vs : List V} {ds xs : List PV} {d : PV} {v : V} {i : Nat}
theorem MRep.some {mo : MO} (r : MRep K W H a mo) : ∃ o, H a = Option.some o := by
  cases r with
  | dic e k => exact ⟨_, e⟩
  | ins c e => exact ⟨_, e⟩
  | own n e => exact ⟨_, e⟩
theorem Okk.some {st : List MO} {n : Nat} (h : Okk K W st H) (e : W.hs[n]? = Option.some a) : H a ≠ none := by
  rcases h.hnd n a e with ⟨_, mo, _, mr⟩ | ⟨f, _⟩
  · obtain ⟨o, e⟩ := mr.some
    rw [e]
    exact fun z => nomatch z
  · cases z : W.F a with
    | none => exact absurd z f
    | some o =>
      rw [h.sub a o z]
      exact fun z => nomatch z
theorem Okk.live {st : List MO} {n : Nat} {mo : MO} (h : Okk K W st H) (e : W.hs[n]? = Option.some a) (hs : st[n]? = Option.some mo) (hm : mo ≠ .gone) : W.F a = none ∧ MRep K W H a mo := by
  rcases h.hnd n a e with ⟨f, mo', e', mr⟩ | ⟨_, g⟩
  · rw [hs] at e'
    cases e'
    exact ⟨f, mr⟩
  · rw [hs] at g
    exact absurd (Option.some.inj g) hm
theorem At.fresh (h : At K C W s σ H) (hp : H p = none) : W.F p = none ∧ p ∉ W.hs ∧ C.G p = none := by
  refine ⟨h.ok.sub.free hp, fun hm => ?_, ?_⟩
  · obtain ⟨n, hn⟩ := List.getElem?_of_mem hm
    exact h.ok.some hn hp
  · cases e : C.G p with
    | none => rfl
    | some o =>
      by_cases hm : p ∈ C.hs0
      · obtain ⟨n, hn⟩ := List.getElem?_of_mem hm
        exact absurd hp (h.ok.some (h.pre n p hn))
      · have := h.keep p o e hm
        rw [hp] at this
        cases this
theorem MRep.mono {mo : MO} (l : W.Le W') (r : MRep K W H a mo) : MRep K W' H a mo := by
  cases r with
  | dic e k => exact .dic e (k.mono l)
  | ins c e n m k r => exact .ins c e (l.pre _ _ n) (l.pre _ _ m) k (r.mono l)
  | own n e => exact .own (l.pre _ _ n) e
theorem MRep.at {mo : MO} {H' : Hp} (r : MRep K W H a mo) (e' : H' a = H a) : MRep K W H' a mo := by
  cases r with
  | dic e k => exact .dic (e'.trans e) k
  | ins c e n m k r => exact .ins c (e'.trans e) n m k r
  | own n e => exact .own n (e'.trans e)
theorem MRep.other {mo : MO} (r : MRep K W H a mo) (n : a ≠ p) : MRep K W (upd H p o) a mo := r.at (upd_ne n)
theorem Hd.map {st st' : List MO} {H' : Hp} {n m : Nat} (h : Hd K W st H n a) (hF : W'.F a = W.F a) (hs : st'[m]? = st[n]?) (f : ∀ mo, MRep K W H a mo → MRep K W' H' a mo) : Hd K W' st' H' m a := by
  rcases h with ⟨g1, mo, g2, g3⟩ | ⟨g1, g2⟩
  · exact .inl ⟨hF.trans g1, mo, hs.trans g2, f mo g3⟩
  · exact .inr ⟨by rw [hF]; exact g1, hs.trans g2⟩
/-- a new object laid and frozen at once -/
theorem At.lay (h : At K C W s σ H) (hp : H p = none) (o : HO) : W.Le ⟨upd W.F p o, W.hs⟩ ∧ At K C ⟨upd W.F p o, W.hs⟩ s σ (upd H p o) := by
  obtain ⟨f1, f2, f3⟩ := h.fresh hp
  have le : W.Le ⟨upd W.F p o, W.hs⟩ := ⟨fun b u e => by show upd W.F p o b = some u; rw [upd_ne (ne_of_none e f1)]; exact e, fun _ _ e => e⟩
  refine ⟨le, ⟨⟨fun b u e => ?_, fun n b e => ?_, h.ok.nd, h.ok.len⟩, fun b u e hb => ?_, h.pre, fun b hb => ?_, h.len, fun j d e => ?_, fun j ys e => ?_, h.dst⟩⟩
  · have e : upd W.F p o b = some u := e
    by_cases hb : b = p
    · subst hb
      rw [upd_same] at e ⊢
      exact e
    · rw [upd_ne hb] at e ⊢
      exact h.ok.sub b u e
  · have hb : b ≠ p := fun z => f2 (z ▸ List.mem_of_getElem? e)
    exact (h.ok.hnd n b e).map (by show upd W.F p o b = _; rw [upd_ne hb]) rfl fun mo g3 => (g3.other hb).mono le
  · have hb' : b ≠ p := fun z => by rw [z, f3] at e; cases e
    rw [upd_ne hb']
    exact h.keep b u e hb
  · obtain ⟨r1, r2⟩ := h.gro b hb
    exact ⟨by show upd W.F p o b = _; rw [upd_ne (fun z => hb (by rw [z]; exact f3))]; exact r1, r2⟩
  · obtain ⟨v, e1, r⟩ := h.val j d e
    exact ⟨v, e1, r.mono le⟩
  · obtain ⟨b, ws, e1, ow, e2, r⟩ := h.own j ys e
    have hb : b ≠ p := ne_of_none e2 hp
    exact ⟨b, ws, e1, ⟨by show upd W.F p o b = _; rw [upd_ne hb]; exact ow.f, ow.h, ow.g⟩, by rw [upd_ne hb]; exact e2, r.mono le⟩
theorem At.layT (h : At K C W s σ H) (hp : H p = none) (r : Reps K W vs ds) : ∃ W', W.Le W' ∧ At K C W' s σ (upd H p (.tup vs)) ∧ Rep K W' (.ref p) (.tup ds) := by
  obtain ⟨l, h'⟩ := h.lay hp (.tup vs)
  exact ⟨_, l, h', .tup (SqT.of upd_same) (r.mono l)⟩
theorem At.layL (h : At K C W s σ H) (hp : H p = none) (r : Reps K W vs ds) : ∃ W', W.Le W' ∧ At K C W' s σ (upd H p (.lst vs)) ∧ Rep K W' (.ref p) (.lst ds) := by
  obtain ⟨l, h'⟩ := h.lay hp (.lst vs)
  exact ⟨_, l, h', .lst upd_same (r.mono l)⟩
/-- a value stored in a slot -/
theorem At.set (h : At K C W s σ H) (r : Rep K W v d) (i : Nat) : At K C W { s with env := s.env.set i (some (.val d)) } (σ.set i (some v)) H := by
  refine ⟨h.ok, h.keep, h.pre, h.gro, by rw [List.length_set, List.length_set]; exact h.len, fun j e he => ?_, fun j ys he => ?_, fun j k ys zs a h1 h2 h3 h4 => ?_⟩
  · by_cases hj : i = j
    · subst hj
      have hi : i < s.env.length := by
        have := (List.getElem?_eq_some_iff.mp he).1
        rwa [List.length_set] at this
      rw [List.getElem?_set_self hi] at he
      cases he
      exact ⟨v, List.getElem?_set_self (by rw [h.len]; exact hi), r⟩
    · rw [List.getElem?_set_ne hj] at he
      rw [List.getElem?_set_ne hj]
      exact h.val j e he
  · by_cases hj : i = j
    · subst hj
      have hi : i < s.env.length := by
        have := (List.getElem?_eq_some_iff.mp he).1
        rwa [List.length_set] at this
      rw [List.getElem?_set_self hi] at he
      cases he
    · rw [List.getElem?_set_ne hj] at he
      rw [List.getElem?_set_ne hj]
      exact h.own j ys he
  · have ne : ∀ {m : Nat} {ws : List PV}, (s.env.set i (some (.val d)))[m]? = some (some (.own ws)) → i ≠ m := fun {m ws} he hm => by
      subst hm
      have hi : i < s.env.length := by
        have := (List.getElem?_eq_some_iff.mp he).1
        rwa [List.length_set] at this
      rw [List.getElem?_set_self hi] at he
      cases he
    have n1 := ne h1
    have n2 := ne h2
    rw [List.getElem?_set_ne n1] at h1 h3
    rw [List.getElem?_set_ne n2] at h2 h4
    exact h.dst j k ys zs a h1 h2 h3 h4
/-- a new list stored in a slot: the slot owns it -/
theorem At.setO (h : At K C W s σ H) (hp : H p = none) (r : Reps K W vs ds) (i : Nat) : At K C W { s with env := s.env.set i (some (.own ds)) } (σ.set i (some (.ref p))) (upd H p (.lst vs)) := by
  obtain ⟨f1, f2, f3⟩ := h.fresh hp
  have old : ∀ {j : Nat} {ys : List PV}, s.env[j]? = some (some (.own ys)) → σ[j]? = some (some (.ref p)) → False := fun {j ys} e z => by
    obtain ⟨b, ws, e1, _, e2, _⟩ := h.own j ys e
    rw [z] at e1
    cases e1
    rw [hp] at e2
    cases e2
  refine ⟨⟨fun b u e => ?_, fun n b e => ?_, h.ok.nd, h.ok.len⟩, fun b u e hb => ?_, h.pre, h.gro, by rw [List.length_set, List.length_set]; exact h.len, fun j e he => ?_, fun j ys he => ?_, fun j k ys zs a h1 h2 h3 h4 => ?_⟩
  · rw [upd_ne (ne_of_none e f1)]
    exact h.ok.sub b u e
  · exact (h.ok.hnd n b e).map rfl rfl fun mo g3 => g3.other fun z => f2 (z ▸ List.mem_of_getElem? e)
  · rw [upd_ne (fun z => by rw [z, f3] at e; cases e)]
    exact h.keep b u e hb
  · by_cases hj : i = j
    · subst hj
      have hi : i < s.env.length := by
        have := (List.getElem?_eq_some_iff.mp he).1
        rwa [List.length_set] at this
      rw [List.getElem?_set_self hi] at he
      cases he
    · rw [List.getElem?_set_ne hj] at he
      rw [List.getElem?_set_ne hj]
      exact h.val j e he
  · by_cases hj : i = j
    · subst hj
      have hi : i < s.env.length := by
        have := (List.getElem?_eq_some_iff.mp he).1
        rwa [List.length_set] at this
      rw [List.getElem?_set_self hi] at he
      cases he
      exact ⟨p, vs, List.getElem?_set_self (by rw [h.len]; exact hi), ⟨f1, f2, f3⟩, upd_same, r⟩
    · rw [List.getElem?_set_ne hj] at he
      rw [List.getElem?_set_ne hj]
      obtain ⟨b, ws, e1, ow, e2, r2⟩ := h.own j ys he
      exact ⟨b, ws, e1, ow, by rw [upd_ne (ne_of_none e2 hp)]; exact e2, r2⟩
  · have hi : i < s.env.length ∨ ¬ i < s.env.length := Nat.lt_or_ge _ _ |>.imp id (fun z => by omega)
    by_cases hj : i = j
    · by_cases hk : i = k
      · exact hj.symm.trans hk
      · subst hj
        have hil : i < s.env.length := by
          have := (List.getElem?_eq_some_iff.mp h1).1
          rwa [List.length_set] at this
        rw [List.getElem?_set_self (by rw [h.len]; exact hil)] at h3
        cases h3
        rw [List.getElem?_set_ne hk] at h2 h4
        exact (old h2 h4).elim
    · by_cases hk : i = k
      · subst hk
        have hil : i < s.env.length := by
          have := (List.getElem?_eq_some_iff.mp h2).1
          rwa [List.length_set] at this
        rw [List.getElem?_set_self (by rw [h.len]; exact hil)] at h4
        cases h4
        rw [List.getElem?_set_ne hj] at h1 h3
        exact (old h1 h3).elim
      · rw [List.getElem?_set_ne hj] at h1 h3
        rw [List.getElem?_set_ne hk] at h2 h4
        exact h.dst j k ys zs a h1 h2 h3 h4
/-- an owned list frozen where it stands -/
theorem At.freeze (h : At K C W s σ H) (he : s.env[i]? = some (some (.own xs))) : ∃ W' a, σ[i]? = some (some (.ref a)) ∧ W.Le W' ∧ At K C W' { s with env := s.env.set i (some (.val (.lst xs))) } σ H ∧ Rep K W' (.ref a) (.lst xs) := by
  obtain ⟨a, vs, e1, ow, e2, r⟩ := h.own i xs he
  have le : W.Le ⟨upd W.F a (.lst vs), W.hs⟩ := ⟨fun b u e => by show upd W.F a (.lst vs) b = some u; rw [upd_ne (ne_of_none e ow.f)]; exact e, fun _ _ e => e⟩
  have ra : Rep K ⟨upd W.F a (.lst vs), W.hs⟩ (.ref a) (.lst xs) := .lst upd_same (r.mono le)
  have hi : i < s.env.length := (List.getElem?_eq_some_iff.mp he).1
  refine ⟨⟨upd W.F a (.lst vs), W.hs⟩, a, e1, le, ⟨⟨fun b u e => ?_, fun n b e => ?_, h.ok.nd, h.ok.len⟩, h.keep, h.pre, fun b hb => ?_, by rw [List.length_set]; exact h.len, fun j e hj => ?_, fun j ys hj => ?_, fun j k ys zs b h1 h2 h3 h4 => ?_⟩, ra⟩
  · by_cases hb : b = a
    · subst hb
      have e' : upd W.F b (.lst vs) b = some u := e
      rw [upd_same] at e'
      rw [e2]
      exact e'
    · have e' : upd W.F a (.lst vs) b = some u := e
      rw [upd_ne hb] at e'
      exact h.ok.sub b u e'
  · have hb : b ≠ a := fun z => ow.h (z ▸ List.mem_of_getElem? e)
    exact (h.ok.hnd n b e).map (by show upd W.F a (.lst vs) b = _; rw [upd_ne hb]) rfl fun mo g3 => g3.mono le
  · obtain ⟨r1, r2⟩ := h.gro b hb
    exact ⟨by show upd W.F a (.lst vs) b = _; rw [upd_ne (fun z => hb (by rw [z]; exact ow.g))]; exact r1, r2⟩
  · by_cases hij : i = j
    · subst hij
      rw [List.getElem?_set_self hi] at hj
      cases hj
      exact ⟨.ref a, e1, ra⟩
    · rw [List.getElem?_set_ne hij] at hj
      obtain ⟨v, e3, r3⟩ := h.val j e hj
      exact ⟨v, e3, r3.mono le⟩
  · have hij : i ≠ j := fun z => by
      subst z
      rw [List.getElem?_set_self hi] at hj
      cases hj
    rw [List.getElem?_set_ne hij] at hj
    obtain ⟨b, ws, e3, ow3, e4, r4⟩ := h.own j ys hj
    have hb : b ≠ a := fun z => by
      subst z
      exact hij (h.dst i j xs ys b he hj e1 e3)
    exact ⟨b, ws, e3, ⟨by show upd W.F a (.lst vs) b = _; rw [upd_ne hb]; exact ow3.f, ow3.h, ow3.g⟩, e4, r4.mono le⟩
  · have ne : ∀ {m : Nat} {ws : List PV}, (s.env.set i (some (.val (.lst xs))))[m]? = some (some (.own ws)) → i ≠ m := fun {m ws} e z => by
      subst z
      rw [List.getElem?_set_self hi] at e
      cases e
    have n1 := ne h1
    have n2 := ne h2
    rw [List.getElem?_set_ne n1] at h1
    rw [List.getElem?_set_ne n2] at h2
    exact h.dst j k ys zs b h1 h2 h3 h4
/-- an owned list changed -/
theorem At.change (h : At K C W s σ H) (he : s.env[i]? = some (some (.own xs))) (hσ : σ[i]? = some (some (.ref a))) (r : Reps K W vs ds) : At K C W { s with env := s.env.set i (some (.own ds)) } σ (upd H a (.lst vs)) := by
  obtain ⟨a', vs', e1, ow, e2, _⟩ := h.own i xs he
  rw [hσ] at e1
  cases e1
  have hi : i < s.env.length := (List.getElem?_eq_some_iff.mp he).1
  refine ⟨⟨fun b u e => ?_, fun n b e => ?_, h.ok.nd, h.ok.len⟩, fun b u e hb => ?_, h.pre, h.gro, by rw [List.length_set]; exact h.len, fun j e hj => ?_, fun j ys hj => ?_, fun j k ys zs b h1 h2 h3 h4 => ?_⟩
  · rw [upd_ne (ne_of_none e ow.f)]
    exact h.ok.sub b u e
  · exact (h.ok.hnd n b e).map rfl rfl fun mo g3 => g3.other fun z => ow.h (z ▸ List.mem_of_getElem? e)
  · rw [upd_ne (fun z => by rw [z, ow.g] at e; cases e)]
    exact h.keep b u e hb
  · have hij : i ≠ j := fun z => by
      subst z
      rw [List.getElem?_set_self hi] at hj
      cases hj
    rw [List.getElem?_set_ne hij] at hj
    exact h.val j e hj
  · by_cases hij : i = j
    · subst hij
      rw [List.getElem?_set_self hi] at hj
      cases hj
      exact ⟨a, vs, hσ, ow, upd_same, r⟩
    · rw [List.getElem?_set_ne hij] at hj
      obtain ⟨b, ws, e3, ow3, e4, r4⟩ := h.own j ys hj
      have hb : b ≠ a := fun z => by
        subst z
        exact hij (h.dst i j xs ys b he hj hσ e3)
      exact ⟨b, ws, e3, ow3, by rw [upd_ne hb]; exact e4, r4⟩
  · have old : ∀ {m : Nat} {ws : List PV}, (s.env.set i (some (.own ds)))[m]? = some (some (.own ws)) → ∃ ws', s.env[m]? = some (some (.own ws')) := fun {m ws} e => by
      by_cases z : i = m
      · subst z; exact ⟨xs, he⟩
      · rw [List.getElem?_set_ne z] at e
        exact ⟨ws, e⟩
    obtain ⟨y1, g1⟩ := old h1
    obtain ⟨y2, g2⟩ := old h2
    exact h.dst j k y1 y2 b g1 g2 h3 h4
end
end Dn
/-! Den2: expressions. -/
namespace Dn
open PySem L2
/-- a value that may be read where one stands -/
inductive RdV (K : PySem.W.Frag) (W : Vw) (H : Hp) : V → PV → Prop
  | rep {v : V} {d : PV} : Rep K W v d → RdV K W H v d
  | own {a : Addr} {vs : List V} {xs : List PV} : H a = some (.lst vs) → Reps K W vs xs → RdV K W H (.ref a) (.lst xs)
section
variable {Y : WX} {K : PySem.W.Frag} {C : Ctx} {W W' : Vw} {σ : L2.St} {H : Hp} {s : S} {v w : V} {d : PV}
theorem RdV.int {i : Int} (h : RdV K W H v (.int i)) : v = .int i := by
  cases h with
  | rep h => cases h; rfl
theorem RdV.str {i : Str} (h : RdV K W H v (.str i)) : v = .str i := by
  cases h with
  | rep h => cases h; rfl
theorem RdV.bl {i : Bool} (h : RdV K W H v (.bl i)) : v = .bl i := by
  cases h with
  | rep h => cases h; rfl
theorem RdV.non (h : RdV K W H v .non) : v = .non := by
  cases h with
  | rep h => cases h; rfl
theorem RdV.tup {ds : List PV} (e : Same W.F H) (h : RdV K W H v (.tup ds)) : ∃ a vs, v = .ref a ∧ SqT K W.F a vs ∧ SqT K H a vs ∧ Reps K W vs ds := by
  cases h with
  | rep h => cases h with
    | tup h r => exact ⟨_, _, rfl, h, same_t e h, r⟩
theorem RdV.lst {ds : List PV} (e : Same W.F H) (h : RdV K W H v (.lst ds)) : ∃ a vs, v = .ref a ∧ H a = some (.lst vs) ∧ Reps K W vs ds := by
  cases h with
  | rep h => cases h with
    | lst h r => exact ⟨_, _, rfl, e _ _ h, r⟩
  | own h r => exact ⟨_, _, rfl, h, r⟩
theorem RdV.scr {ns : List Int} (e : Same W.F H) (h : RdV K W H v (.scr ns)) : ∃ a, v = .ref a ∧ SqL K H a (ns.map V.int) := by
  cases h with
  | rep h => cases h with
    | scr h => exact ⟨_, rfl, e.seq h⟩
theorem RdV.hnd {n : Nat} (h : RdV K W H v (.hnd n)) : ∃ a, v = .ref a ∧ W.hs[n]? = some a := by
  cases h with
  | rep h => cases h with
    | hnd h => exact ⟨_, rfl, h⟩
/-! ### as the library's data -/
mutual
def PV.toD : PV → Option PyData
  | .non => some .none
  | .bl b => some (.bool b)
  | .int i => some (.int i)
  | .str x => some (.str x)
  | .tup xs => (PV.toDs xs).map .tuple
  | .lst xs => (PV.toDs xs).map .list
  | .scr ns => some (.list (ns.map .int))
  | .hnd _ => none
  | .obj _ _ _ => none
  | .exn _ _ _ => none
  | .dic _ => none
def PV.toDs : List PV → Option (List PyData)
  | [] => some []
  | x :: xs => match PV.toD x, PV.toDs xs with
    | some d, some ds => some (d :: ds)
    | _, _ => none
end
theorem dp_ints (H : Hp) : ∀ ns : List Int, DpAll K H (ns.map V.int) (ns.map PyData.int)
  | [] => .nil
  | n :: ns => .cons (.int n) (dp_ints H ns)
mutual
theorem dp_of (e : Same W.F H) : ∀ {v : V} {d : PV} {x : PyData}, Rep K W v d → d.toD = some x → Dp K H v x
  | _, _, _, .non, h => by cases h; exact .non
  | _, _, _, .bl b, h => by cases h; exact .bl b
  | _, _, _, .int i, h => by cases h; exact .int i
  | _, _, _, .str i, h => by cases h; exact .str i
  | _, .tup ds, x, .tup hq r, h => by
    have h : (PV.toDs ds).map PyData.tuple = some x := by rw [← h, PV.toD]
    obtain ⟨ys, e1, rfl⟩ := Option.map_eq_some_iff.mp h
    exact .tup (same_t e hq) (dps_of e r e1)
  | _, .lst ds, x, .lst hq r, h => by
    have h : (PV.toDs ds).map PyData.list = some x := by rw [← h, PV.toD]
    obtain ⟨ys, e1, rfl⟩ := Option.map_eq_some_iff.mp h
    exact .lst (SqL.of (e _ _ hq)) (dps_of e r e1)
  | _, .scr ns, x, .scr hq, h => by
    have h : some (PyData.list (ns.map .int)) = some x := by rw [← h, PV.toD]
    cases h
    exact .lst (e.seq hq) (dp_ints H ns)
  | _, .hnd n, x, .hnd hq, h => by
    have h : none = some x := by rw [← h, PV.toD]
    cases h
  | _, .obj c ks us, x, .obj .., h => by
    have h : none = some x := by rw [← h, PV.toD]
    cases h
  | _, .exn c ks us, x, .exn .., h => by
    have h : none = some x := by rw [← h, PV.toD]
    cases h
  | _, .dic us, x, .dic .., h => by
    have h : none = some x := by rw [← h, PV.toD]
    cases h
theorem dps_of (e : Same W.F H) : ∀ {vs : List V} {ds : List PV} {xs : List PyData}, Reps K W vs ds → PV.toDs ds = some xs → DpAll K H vs xs
  | _, _, _, .nil, h => by
    rw [PV.toDs] at h
    cases h
    exact .nil
  | _, d :: ds, xs, .cons hq r, h => by
    rw [PV.toDs] at h
    split at h
    · rename_i y ys e1 e2
      cases h
      exact .cons (dp_of e hq e1) (dps_of e r e2)
    · cases h
end
theorem RdV.dp {x : PyData} (e : Same W.F H) (h : RdV K W H v d) (hd : d.toD = some x) : Dp K H v x := by
  cases h with
  | rep h => exact dp_of e h hd
  | @own a vs xs h r =>
    have hd : (PV.toDs xs).map PyData.list = some x := by rw [← hd, PV.toD]
    obtain ⟨ys, e1, rfl⟩ := Option.map_eq_some_iff.mp hd
    exact .lst (SqL.of h) (dps_of e r e1)
theorem Pst.lft' {α : Type} {o : Option α} {Q : α → S → Vw → Hp → Prop} (h : Pst K C W σ (Dn.lft o s) Q) : ∃ a, o = some a ∧ ∀ W' H', W.Le W' → At K C W' s σ H' → Q a s W' H' := by
  unfold Dn.lft at h
  cases o with
  | none => exact h.elim
  | some a => exact ⟨a, rfl, h⟩
end
/-! ### names -/
def SV.pv : SV → PV
  | .val d => d
  | .own xs => .lst xs
/-- a name read: what it owns is frozen -/
def var (i : Nat) : M PV := fun s => match s.env[i]? with
  | some (some (.val d)) => .ok d s
  | some (some (.own xs)) => .ok (.lst xs) { s with env := s.env.set i (some (.val (.lst xs))) }
  | _ => .stk
section
variable {Y : WX} {K : PySem.W.Frag} {C : Ctx} {W W' : Vw} {σ : L2.St} {H : Hp} {s : S} {v w : V} {d : PV} {Q : VK} {i : Nat} {ca cb : M PV}
theorem den_var (h : den K Y (var i) σ H Q) : tVar i σ H Q := by
  obtain ⟨C, W, s, at', p⟩ := h
  unfold var at p
  split at p
  · rename_i d e
    obtain ⟨v, e1, r⟩ := at'.val i d e
    exact ⟨v, e1, p W H (Vw.Le.refl W) at' v r⟩
  · rename_i xs e
    obtain ⟨W', a, e1, l, at2, r⟩ := at'.freeze e
    exact ⟨.ref a, e1, p W' H l at2 _ r⟩
  · exact p.elim
theorem At.look {sv : SV} (h : At K C W s σ H) (e : s.env[i]? = some (some sv)) : ∃ v, σ[i]? = some (some v) ∧ RdV K W H v sv.pv := by
  cases sv with
  | val d =>
    obtain ⟨v, e1, r⟩ := h.val i d e
    exact ⟨v, e1, .rep r⟩
  | own xs =>
    obtain ⟨a, vs, e1, ow, e2, r⟩ := h.own i xs e
    exact ⟨_, e1, .own e2 r⟩
theorem den_ret (h : den K Y (ret d) σ H Q) (r : ∀ W, Rep K W v d) : tC v σ H Q := by
  obtain ⟨C, W, s, at', p⟩ := h
  exact p W H (Vw.Le.refl W) at' v (r W)
/-! ### operators -/
abbrev WantV (K : PySem.W.Frag) (Q : VK) : PV → S → Vw → Hp → Prop := fun d _ W' H' => ∀ v, Rep K W' v d → Q v H'
abbrev WantL (K : PySem.W.Frag) (Q : VK) : List PV → S → Vw → Hp → Prop := fun ds _ W' H' => ∀ p vs, H' p = none → Reps K W' vs ds → Q (.ref p) (upd H' p (.lst vs))
def bin (ca cb : M PV) (op : PV → PV → M PV) : M PV := bnd ca fun a => bnd cb fun b => op a b
def Bin (r : R2) (K : PySem.W.Frag) (op : PV → PV → M PV) : Prop := ∀ (C : Ctx) (W : Vw) (s : S) (σ : L2.St) (H : Hp) (v w : V) (a b : PV) (Q : VK), At K C W s σ H → RdV K W H v a → RdV K W H w b → Pst K C W σ (op a b s) (WantV K Q) → r v w H Q
theorem den_bin {r : R2} {op : PV → PV → M PV} (hb : Bin r K op) (h : den K Y (bin ca cb op) σ H Q) : tOp r (den K Y ca) (den K Y cb) σ H Q := by
  obtain ⟨C, W, s, at', p⟩ := h
  refine ⟨C, W, s, at', (Pst.bnd p).imp fun a s1 W1 H1 l1 at1 p1 v rv => ⟨C, W1, s1, at1, (Pst.bnd p1).imp fun b s2 W2 H2 l2 at2 p2 w rw' => ?_⟩⟩
  exact hb _ W2 s2 σ H2 v w a b Q at2 (.rep (rv.mono l2)) (.rep rw') p2
/-! ### arithmetic -/
instance (i j : Int) : Decidable (CDivW i j) := inferInstanceAs (Decidable (_ ∧ _))
instance (i j : Int) : Decidable (CMulW i j) := inferInstanceAs (Decidable (_ < _))
instance (i j : Int) : Decidable (CPow i j) := inferInstanceAs (Decidable (_ ∧ _ ∧ _))
def addP : PV → PV → Option PV
  | .int a, .int b => some (.int (a + b))
  | .str a, .str b => if a.length + b.length ≤ sizeLine then some (.str (a ++ b)) else none
  | .tup a, .tup b => if a.length + b.length ≤ sizeLine then some (.tup (a ++ b)) else none
  | .lst a, .lst b => if a.length + b.length ≤ sizeLine then some (.lst (a ++ b)) else none
  | _, _ => none
def subP : PV → PV → Option PV
  | .int a, .int b => some (.int (a - b))
  | _, _ => none
def mulP : PV → PV → Option PV
  | .int a, .int b => if CMulW a b then some (.int (a * b)) else none
  | .lst a, .int k => if (-(2 ^ 63) ≤ k ∧ k < 2 ^ 63) ∧ a.length * k.toNat ≤ sizeLine then some (.lst (List.replicate k.toNat a).flatten) else none
  | _, _ => none
def fdivP : PV → PV → Option PV
  | .int a, .int b => if CDivW a b then some (.int (a / b)) else none
  | _, _ => none
def modP : PV → PV → Option PV
  | .int a, .int b => if 0 < b then some (.int (a % b)) else none
  | _, _ => none
def powP : PV → PV → Option PV
  | .int a, .int b => if CPow a b then some (.int (a ^ b.toNat)) else none
  | _, _ => none
def rOr (r q : R2) : R2 := fun x y H Q => r x y H Q ∨ q x y H Q
theorem op_or2 {X : Cx} {f : Value → Value → Sem Value} {r q : R2} (h : OpR X f r) (k : OpR X f q) : OpR X f (rOr r q) := by
  intro pins s σ H x y v u Q I rx ry h'
  rcases h' with h' | h'
  · exact h pins s σ H x y v u Q I rx ry h'
  · exact k pins s σ H x y v u Q I rx ry h'
abbrev rStr2 : R2 := fun x y H Q => ∃ i j, x = .str i ∧ y = .str j ∧ i.length + j.length ≤ sizeLine ∧ Q (.str (i ++ j)) H
def rAddU (K : PySem.W.Frag) : R2 := rOr (rOr (rI0 fun i j => .int (i + j)) rStr2) (rOr (rCatA K) rCat)
theorem op_addU {X : Cx} : OpR X (binaryOp .Add) (rAddU X.K) := op_or2 (op_or2 op_add op_add_str) (op_or2 op_catA op_cat)
theorem bin_add : Bin (rAddU K) K (fun a b => lft (addP a b)) := by
  intro C W s σ H v w a b Q at' ra rb p
  obtain ⟨d, e, q⟩ := p.lft'
  have q0 := q W H (Vw.Le.refl W) at'
  unfold addP at e
  split at e
  · cases e
    cases ra.int
    cases rb.int
    exact .inl (.inl ⟨_, _, rfl, rfl, q0 _ (.int _)⟩)
  · split at e
    · cases e
      cases ra.str
      cases rb.str
      exact .inl (.inr ⟨_, _, rfl, rfl, by assumption, q0 _ (.str _)⟩)
    · cases e
  · split at e
    · rename_i hl
      cases e
      obtain ⟨x, vs, rfl, hx, hx2, rx⟩ := ra.tup at'.ok.sub
      obtain ⟨y, ws, rfl, hy, hy2, ry⟩ := rb.tup at'.ok.sub
      refine .inr (.inl ⟨x, y, vs, ws, rfl, rfl, hx2, hy2, by rw [rx.length, ry.length]; exact hl, fun e1 => ?_, fun _ e1 => ?_, fun _ _ p hp => ?_⟩)
      · subst e1
        cases rx
        exact q0 _ (.tup hy ry)
      · subst e1
        cases ry
        rw [List.append_nil] at q0
        exact q0 _ (.tup hx rx)
      · obtain ⟨W', l, at2, r2⟩ := at'.layT hp (rx.append ry)
        exact q W' _ l at2 _ r2
    · cases e
  · split at e
    · rename_i hl
      cases e
      obtain ⟨x, vs, rfl, hx, rx⟩ := ra.lst at'.ok.sub
      obtain ⟨y, ws, rfl, hy, ry⟩ := rb.lst at'.ok.sub
      refine .inr (.inr ⟨x, y, vs, ws, rfl, rfl, hx, hy, by rw [rx.length, ry.length]; exact hl, fun p hp => ?_⟩)
      obtain ⟨W', l, at2, r2⟩ := at'.layL hp (rx.append ry)
      exact q W' _ l at2 _ r2
    · cases e
  · cases e
theorem bin_sub : Bin (rI0 fun i j => .int (i - j)) K (fun a b => lft (subP a b)) := by
  intro C W s σ H v w a b Q at' ra rb p
  obtain ⟨d, e, q⟩ := p.lft'
  have q0 := q W H (Vw.Le.refl W) at'
  unfold subP at e
  split at e
  · cases e
    cases ra.int
    cases rb.int
    exact ⟨_, _, rfl, rfl, q0 _ (.int _)⟩
  · cases e
theorem bin_mul : Bin (rOr (rI CMulW fun i j => .int (i * j)) rRep) K (fun a b => lft (mulP a b)) := by
  intro C W s σ H v w a b Q at' ra rb p
  obtain ⟨d, e, q⟩ := p.lft'
  have q0 := q W H (Vw.Le.refl W) at'
  unfold mulP at e
  split at e
  · split at e
    · cases e
      cases ra.int
      cases rb.int
      exact .inl ⟨_, _, rfl, rfl, by assumption, q0 _ (.int _)⟩
    · cases e
  · split at e
    · rename_i hl
      cases e
      obtain ⟨x, vs, rfl, hx, rx⟩ := ra.lst at'.ok.sub
      cases rb.int
      refine .inr ⟨x, _, vs, rfl, rfl, hx, hl.1.1, hl.1.2, by rw [rx.length]; exact hl.2, fun p hp => ?_⟩
      obtain ⟨W', l, at2, r2⟩ := at'.layL hp (rx.rep _)
      exact q W' _ l at2 _ r2
    · cases e
  · cases e
theorem bin_fdiv : Bin (rI CDivW fun i j => .int (i / j)) K (fun a b => lft (fdivP a b)) := by
  intro C W s σ H v w a b Q at' ra rb p
  obtain ⟨d, e, q⟩ := p.lft'
  have q0 := q W H (Vw.Le.refl W) at'
  unfold fdivP at e
  split at e
  · split at e
    · cases e
      cases ra.int
      cases rb.int
      exact ⟨_, _, rfl, rfl, by assumption, q0 _ (.int _)⟩
    · cases e
  · cases e
theorem bin_mod : Bin (rI (fun _ j => 0 < j) fun i j => .int (i % j)) K (fun a b => lft (modP a b)) := by
  intro C W s σ H v w a b Q at' ra rb p
  obtain ⟨d, e, q⟩ := p.lft'
  have q0 := q W H (Vw.Le.refl W) at'
  unfold modP at e
  split at e
  · split at e
    · cases e
      cases ra.int
      cases rb.int
      exact ⟨_, _, rfl, rfl, by assumption, q0 _ (.int _)⟩
    · cases e
  · cases e
theorem bin_pow : Bin (rI CPow fun i j => .int (i ^ j.toNat)) K (fun a b => lft (powP a b)) := by
  intro C W s σ H v w a b Q at' ra rb p
  obtain ⟨d, e, q⟩ := p.lft'
  have q0 := q W H (Vw.Le.refl W) at'
  unfold powP at e
  split at e
  · split at e
    · cases e
      cases ra.int
      cases rb.int
      exact ⟨_, _, rfl, rfl, by assumption, q0 _ (.int _)⟩
    · cases e
  · cases e
/-! ### comparisons -/
def ordP (f : Int → Int → Bool) : PV → PV → Option PV
  | .int a, .int b => some (.bl (f a b))
  | _, _ => none
theorem bin_ord {f : Int → Int → Bool} : Bin (rI0 fun i j => .bl (f i j)) K (fun a b => lft (ordP f a b)) := by
  intro C W s σ H v w a b Q at' ra rb p
  obtain ⟨d, e, q⟩ := p.lft'
  have q0 := q W H (Vw.Le.refl W) at'
  unfold ordP at e
  split at e
  · cases e
    cases ra.int
    cases rb.int
    exact ⟨_, _, rfl, rfl, q0 _ (.bl _)⟩
  · cases e
def eqP (neg : Bool) (a b : PV) : Option PV := match a, b with
  | .str x, .str y => some (.bl (if neg then !(x == y) else x == y))
  | a, b => match a.toD, b.toD with
    | some x, some y => if SeqAt.shaped x = true ∧ SeqAt.shaped y = true then some (.bl (if neg then !PyData.eqv x y else PyData.eqv x y)) else none
    | _, _ => none
theorem bin_eq : Bin (rOr rEq (rEqD K)) K (fun a b => lft (eqP false a b)) := by
  intro C W s σ H v w a b Q at' ra rb p
  obtain ⟨d, e, q⟩ := p.lft'
  have q0 := q W H (Vw.Le.refl W) at'
  unfold eqP at e
  split at e
  · cases e
    cases ra.str
    cases rb.str
    exact .inl ⟨rfl, by rw [dec_str]; exact q0 _ (.bl _)⟩
  · split at e
    · rename_i x y hx hy
      split at e
      · rename_i hs
        cases e
        exact .inr ⟨x, y, ra.dp at'.ok.sub hx, rb.dp at'.ok.sub hy, hs.1, hs.2, q0 _ (.bl _)⟩
      · cases e
    · cases e
theorem bin_ne : Bin (rOr rNe (rNeD K)) K (fun a b => lft (eqP true a b)) := by
  intro C W s σ H v w a b Q at' ra rb p
  obtain ⟨d, e, q⟩ := p.lft'
  have q0 := q W H (Vw.Le.refl W) at'
  unfold eqP at e
  split at e
  · cases e
    cases ra.str
    cases rb.str
    exact .inl ⟨rfl, by rw [dec_str]; exact q0 _ (.bl _)⟩
  · split at e
    · rename_i x y hx hy
      split at e
      · rename_i hs
        cases e
        exact .inr ⟨x, y, ra.dp at'.ok.sub hx, rb.dp at'.ok.sub hy, hs.1, hs.2, q0 _ (.bl _)⟩
      · cases e
    · cases e
/-- a text among texts; data in a list of data -/
def strsOf : List PV → Option (List Str)
  | [] => some []
  | .str x :: r => (strsOf r).map (x :: ·)
  | _ :: _ => none
theorem strsOf_ok : ∀ {ds : List PV} {xs : List Str}, strsOf ds = some xs → ds = xs.map PV.str
  | [], xs, h => by cases h; rfl
  | .str x :: r, xs, h => by
    have h : (strsOf r).map (x :: ·) = some xs := h
    obtain ⟨ys, e, rfl⟩ := Option.map_eq_some_iff.mp h
    rw [strsOf_ok e]
    rfl
  | .non :: _, _, h => by cases h
  | .bl _ :: _, _, h => by cases h
  | .int _ :: _, _, h => by cases h
  | .tup _ :: _, _, h => by cases h
  | .lst _ :: _, _, h => by cases h
  | .scr _ :: _, _, h => by cases h
  | .hnd _ :: _, _, h => by cases h
  | .obj .. :: _, _, h => by cases h
  | .exn .. :: _, _, h => by cases h
  | .dic .. :: _, _, h => by cases h
theorem strsOf_map (xs : List Str) : strsOf (xs.map PV.str) = some xs := by
  induction xs with
  | nil => rfl
  | cons x r ih => show (strsOf (r.map PV.str)).map (x :: ·) = _; rw [ih]; rfl
theorem inV_strs (x : Str) (xs : List Str) : inV (.str x) (xs.map V.str) = decide (x ∈ xs) := by
  unfold inV
  rw [List.any_map]
  rw [Bool.eq_iff_iff, List.any_eq_true, decide_eq_true_eq]
  constructor
  · rintro ⟨y, hy, e⟩
    have e : (y == x) = true := e
    rw [← eq_of_beq e]
    exact hy
  · intro h
    exact ⟨x, h, by show (x == x) = true; exact beq_self_eq_true x⟩
theorem flat_strs (xs : List Str) : (xs.map V.str).all flatV = true := by
  rw [List.all_map, List.all_eq_true]
  intro x _
  rfl
def inP (neg : Bool) (a b : PV) : Option PV := match a, b with
  | .str ⟨⟨[c]⟩⟩, .str z => some (.bl (if neg then !decide (c ∈ z.cps.toList) else decide (c ∈ z.cps.toList)))
  | .str x, .tup ys => (strsOf ys).map fun xs => .bl (if neg then !decide (x ∈ xs) else decide (x ∈ xs))
  | a, .lst ys => match a.toD, PV.toDs ys with
    | some d, some ds => if SeqAt.shaped d = true ∧ SeqAt.shaped (.list ds) = true then some (.bl (if neg then !ds.any fun z => PyData.eqv z d else ds.any fun z => PyData.eqv z d)) else none
    | _, _ => none
  | _, _ => none
theorem bin_in : Bin (rOr (rOr (rIn K false) (rInD K)) (fun x y H Q => ∃ (c : Nat) (z : Str), x = .str ⟨#[c]⟩ ∧ y = .str z ∧ Q (.bl (decide (c ∈ z.cps.toList))) H)) K (fun a b => lft (inP false a b)) := by
  intro C W s σ H v w a b Q at' ra rb p
  obtain ⟨d, e, q⟩ := p.lft'
  have q0 := q W H (Vw.Le.refl W) at'
  unfold inP at e
  split at e
  · cases e
    cases ra.str
    cases rb.str
    exact .inr ⟨_, _, rfl, rfl, q0 _ (.bl _)⟩
  · rename_i x ys
    obtain ⟨xs, e1, rfl⟩ := Option.map_eq_some_iff.mp e
    cases ra.str
    obtain ⟨y, ws, rfl, hy, hy2, ry⟩ := rb.tup at'.ok.sub
    have ew := strsOf_ok e1
    subst ew
    have ew := ry.of_strs
    subst ew
    exact .inl (.inl ⟨y, _, rfl, .inr hy2, rfl, flat_strs xs, by rw [inV_strs]; exact q0 _ (.bl _)⟩)
  · rename_i ys _ _
    split at e
    · rename_i d' ds hd hds
      split at e
      · rename_i hs
        cases e
        exact .inl (.inr ⟨d', ds, ra.dp at'.ok.sub hd, rb.dp at'.ok.sub (by rw [PV.toD, hds]; rfl), hs.1, hs.2, q0 _ (.bl _)⟩)
      · cases e
    · cases e
  · cases e
/-! ### subscripts -/
def ixP : PV → PV → Option PV
  | .lst xs, .int i => atI xs i
  | .tup xs, .int i => atI xs i
  | .str x, .int i => if x.length ≤ sizeLine then (atI x.cps.toList i).map fun c => .str ⟨#[c]⟩ else none
  | _, _ => none
theorem atI_rep {vs : List V} {ds : List PV} {i : Int} {d : PV} (r : Reps K W vs ds) (h : atI ds i = some d) : ∃ v, atI vs i = some v ∧ Rep K W v d := by
  unfold atI at h ⊢
  rw [r.length]
  obtain ⟨j, e, h⟩ := Option.bind_eq_some_iff.mp h
  obtain ⟨v, e2, r2⟩ := r.get h
  exact ⟨v, by rw [e]; exact e2, r2⟩
theorem bin_ix : Bin (rIx K) K (fun a b => lft (ixP a b)) := by
  intro C W s σ H v w a b Q at' ra rb p
  obtain ⟨d, e, q⟩ := p.lft'
  have q0 := q W H (Vw.Le.refl W) at'
  unfold ixP at e
  split at e
  · cases rb.int
    obtain ⟨x, vs, rfl, hx, rx⟩ := ra.lst at'.ok.sub
    obtain ⟨v, e1, r1⟩ := atI_rep rx e
    exact .inl ⟨x, vs, _, v, rfl, rfl, SqL.of hx, e1, q0 _ r1⟩
  · cases rb.int
    obtain ⟨x, vs, rfl, hx, hx2, rx⟩ := ra.tup at'.ok.sub
    obtain ⟨v, e1, r1⟩ := atI_rep rx e
    exact .inr (.inl ⟨x, vs, _, v, rfl, rfl, hx2, e1, q0 _ r1⟩)
  · split at e
    · cases rb.int
      cases ra.str
      obtain ⟨c, e1, rfl⟩ := Option.map_eq_some_iff.mp e
      exact .inr (.inr ⟨_, _, c, rfl, rfl, by assumption, e1, q0 _ (.str _)⟩)
    · cases e
  · cases e
end
end Dn
/-! Den3: tests, arguments, displays, slices, built-ins, methods, handles. -/
namespace Dn
open PySem L2
section
variable {Y : WX} {K : PySem.W.Frag} {C : Ctx} {W W' : Vw} {σ : L2.St} {H : Hp} {s : S} {v w : V} {d : PV} {Q : VK} {i : Nat} {ca cb : M PV}
/-! ### tests -/
def asB (c : M PV) : M Bool := bnd c fun d => match d with
  | .bl b => ret b
  | _ => stuck
theorem den_asB {QB : Bool → Hp → Prop} (h : denT K Y (asB ca) σ H QB) : den K Y ca σ H (fun x H1 => ∃ c, x = .bl c ∧ QB c H1) := by
  obtain ⟨C, W, s, at', p⟩ := h
  refine ⟨C, W, s, at', (Pst.bnd p).imp fun a s1 W1 H1 l1 at1 p1 v rv => ?_⟩
  cases a <;> try exact p1.elim
  cases rv
  exact ⟨_, rfl, p1 W1 H1 (Vw.Le.refl _) at1⟩
def andT (a b : M Bool) : M Bool := bnd a fun x => if x = true then b else ret false
def orT (a b : M Bool) : M Bool := bnd a fun x => if x = true then ret true else b
def notT (a : M Bool) : M Bool := bnd a fun x => ret (!x)
def iteT (t : M Bool) (a b : M PV) : M PV := bnd t fun x => if x = true then a else b
theorem den_and {a b : M Bool} {QB : Bool → Hp → Prop} (h : denT K Y (andT a b) σ H QB) : tAnd (denT K Y a) (denT K Y b) σ H QB := by
  obtain ⟨C, W, s, at', p⟩ := h
  refine ⟨C, W, s, at', (Pst.bnd p).imp fun x s1 W1 H1 l1 at1 p1 => ?_⟩
  cases x with
  | true => exact ⟨C, W1, s1, at1, p1⟩
  | false => exact p1 W1 H1 (Vw.Le.refl _) at1
theorem den_or {a b : M Bool} {QB : Bool → Hp → Prop} (h : denT K Y (orT a b) σ H QB) : tOr (denT K Y a) (denT K Y b) σ H QB := by
  obtain ⟨C, W, s, at', p⟩ := h
  refine ⟨C, W, s, at', (Pst.bnd p).imp fun x s1 W1 H1 l1 at1 p1 => ?_⟩
  cases x with
  | false => exact ⟨C, W1, s1, at1, p1⟩
  | true => exact p1 W1 H1 (Vw.Le.refl _) at1
theorem den_not {a : M Bool} {QB : Bool → Hp → Prop} (h : denT K Y (notT a) σ H QB) : tNot (denT K Y a) σ H QB := by
  obtain ⟨C, W, s, at', p⟩ := h
  exact ⟨C, W, s, at', (Pst.bnd p).imp fun x s1 W1 H1 l1 at1 p1 => p1 W1 H1 (Vw.Le.refl _) at1⟩
theorem den_ite {t : M Bool} (h : den K Y (iteT t ca cb) σ H Q) : tIf (denT K Y t) (den K Y ca) (den K Y cb) σ H Q := by
  obtain ⟨C, W, s, at', p⟩ := h
  refine ⟨C, W, s, at', (Pst.bnd p).imp fun x s1 W1 H1 l1 at1 p1 => ?_⟩
  cases x with
  | true => exact ⟨C, W1, s1, at1, p1⟩
  | false => exact ⟨C, W1, s1, at1, p1⟩
/-! and, or of truth values, as values -/
def andV (a b : M PV) : M PV := bnd a fun x => match x with
  | .bl true => b
  | .bl false => ret (.bl false)
  | _ => stuck
def notV (a : M PV) : M PV := bnd a fun x => match x with
  | .bl b => ret (.bl (!b))
  | _ => stuck
theorem den_andV (h : den K Y (andV ca cb) σ H Q) : tAndV (den K Y ca) (den K Y cb) σ H Q := by
  obtain ⟨C, W, s, at', p⟩ := h
  refine ⟨C, W, s, at', (Pst.bnd p).imp fun x s1 W1 H1 l1 at1 p1 v rv => ?_⟩
  cases x <;> try exact p1.elim
  rename_i b
  cases rv
  refine ⟨b, rfl, ?_⟩
  cases b with
  | true => exact ⟨C, W1, s1, at1, p1⟩
  | false => exact p1 W1 H1 (Vw.Le.refl _) at1 _ (.bl _)
theorem den_notV (h : den K Y (notV ca) σ H Q) : tNotV (den K Y ca) σ H Q := by
  obtain ⟨C, W, s, at', p⟩ := h
  refine ⟨C, W, s, at', (Pst.bnd p).imp fun x s1 W1 H1 l1 at1 p1 v rv => ?_⟩
  cases x <;> try exact p1.elim
  cases rv
  exact ⟨_, rfl, p1 W1 H1 (Vw.Le.refl _) at1 _ (.bl _)⟩
/-! is None -/
def isN (neg : Bool) (a : M PV) : M PV := bnd a fun x => match x with
  | .non => ret (.bl (!neg))
  | _ => ret (.bl neg)
theorem Rep.isnon (r : Rep K W v d) : decide (v = .non) = (match d with | .non => true | _ => false) := by
  cases r <;> simp
theorem den_isN (h : den K Y (isN false ca) σ H Q) : tIsN (den K Y ca) σ H Q := by
  obtain ⟨C, W, s, at', p⟩ := h
  refine ⟨C, W, s, at', (Pst.bnd p).imp fun x s1 W1 H1 l1 at1 p1 v rv => ?_⟩
  show Q (V.bl (decide (v = V.non))) H1
  rw [rv.isnon]
  cases x <;> exact p1 W1 H1 (Vw.Le.refl _) at1 _ (.bl _)
theorem den_notN (h : den K Y (isN true ca) σ H Q) : tNotN (den K Y ca) σ H Q := by
  obtain ⟨C, W, s, at', p⟩ := h
  refine ⟨C, W, s, at', (Pst.bnd p).imp fun x s1 W1 H1 l1 at1 p1 v rv => ?_⟩
  show Q (V.bl (!decide (v = V.non))) H1
  rw [rv.isnon]
  cases x <;> exact p1 W1 H1 (Vw.Le.refl _) at1 _ (.bl _)
/-! ### arguments, displays -/
def argN : M (List PV) := ret []
def argC (a : M PV) (r : M (List PV)) : M (List PV) := bnd a fun d => bnd r fun ds => ret (d :: ds)
theorem den_argN {QA : List V → Hp → Prop} (h : denA K Y argN σ H QA) : tNil σ H QA := by
  obtain ⟨C, W, s, at', p⟩ := h
  exact p W H (Vw.Le.refl _) at' _ .nil
theorem den_argC {r : M (List PV)} {QA : List V → Hp → Prop} (h : denA K Y (argC ca r) σ H QA) : tCons (den K Y ca) (denA K Y r) σ H QA := by
  obtain ⟨C, W, s, at', p⟩ := h
  refine ⟨C, W, s, at', (Pst.bnd p).imp fun d s1 W1 H1 l1 at1 p1 v rv => ⟨C, W1, s1, at1, (Pst.bnd p1).imp fun ds s2 W2 H2 l2 at2 p2 vs rvs => ?_⟩⟩
  exact p2 W2 H2 (Vw.Le.refl _) at2 _ (.cons (rv.mono l2) rvs)
def fits (c : M (List PV)) : M (List PV) := bnd c fun ds => if ds.length ≤ sizeLine then ret ds else stuck
def tupM (c : M (List PV)) : M PV := bnd (fits c) fun ds => ret (.tup ds)
def lstM (c : M (List PV)) : M PV := bnd c fun ds => ret (.lst ds)
theorem den_tup {c : M (List PV)} (h : den K Y (tupM c) σ H Q) : tTup (denA K Y c) σ H Q := by
  obtain ⟨C, W, s, at', p⟩ := h
  refine ⟨C, W, s, at', (Pst.bnd (Pst.bnd p)).imp fun ds s1 W1 H1 l1 at1 p1 vs rvs => ?_⟩
  split at p1
  · rename_i hl
    refine ⟨by rw [rvs.length]; exact hl, fun q hq => ?_⟩
    have p2 := p1 W1 H1 (Vw.Le.refl _) at1
    obtain ⟨W2, l2, at2, r2⟩ := at1.layT hq rvs
    exact p2 W2 _ l2 at2 _ r2
  · exact p1.elim
/-- a new list, nobody's yet -/
theorem denO_lst {c : M (List PV)} (h : denO K Y (fits c) σ H Q) : tLst (denA K Y c) σ H Q := by
  obtain ⟨C, W, s, at', p⟩ := h
  refine ⟨C, W, s, at', (Pst.bnd p).imp fun ds s1 W1 H1 l1 at1 p1 vs rvs => ?_⟩
  split at p1
  · rename_i hl
    exact ⟨by rw [rvs.length]; exact hl, fun q hq => p1 W1 H1 (Vw.Le.refl _) at1 q vs hq rvs⟩
  · exact p1.elim
/-- .. frozen at once -/
theorem denO_den {c : M (List PV)} (h : den K Y (lstM c) σ H Q) : denO K Y c σ H Q := by
  obtain ⟨C, W, s, at', p⟩ := h
  refine ⟨C, W, s, at', (Pst.bnd p).imp fun ds s1 W1 H1 l1 at1 p1 q vs hq rvs => ?_⟩
  obtain ⟨W2, l2, at2, r2⟩ := at1.layL hq rvs
  exact p1 W2 _ l2 at2 _ r2
/-! ### slices -/
def cutP (xs : List PV) (lo hi : Option Int) : List PV := (xs.drop (HT.sIx xs.length 0 lo)).take (HT.sIx xs.length xs.length hi - HT.sIx xs.length 0 lo)
def cutI (xs : List Int) (lo hi : Option Int) : List Int := (xs.drop (HT.sIx xs.length 0 lo)).take (HT.sIx xs.length xs.length hi - HT.sIx xs.length 0 lo)
theorem Reps.cut {vs : List V} {ds : List PV} (r : Reps K W vs ds) (lo hi : Option Int) : Reps K W (cutV vs lo hi) (cutP ds lo hi) := by
  unfold cutV cutP
  rw [r.length]
  exact (r.drop _).take _
theorem cutV_ints (ns : List Int) (lo hi : Option Int) : cutV (ns.map V.int) lo hi = (cutI ns lo hi).map V.int := by
  unfold cutV cutI
  rw [List.length_map, ← List.map_drop, ← List.map_take]
def denP (K : PySem.W.Frag) (Y : WX) (c : M (Option Int)) : TO := fun σ H Q => ∃ (C : Ctx) (W : Vw) (s : S), At K (C.wi Y) W s σ H ∧ Pst K (C.wi Y) W σ (c s) (fun o _ _ H' => Q o H')
def parN : M (Option Int) := ret none
def parS (c : M PV) : M (Option Int) := bnd c fun d => match d with
  | .int i => ret (some i)
  | _ => stuck
theorem den_parN {QO : Option Int → Hp → Prop} (h : denP K Y parN σ H QO) : tNoPart σ H QO := by
  obtain ⟨C, W, s, at', p⟩ := h
  exact p W H (Vw.Le.refl _) at'
theorem den_parS {QO : Option Int → Hp → Prop} (h : denP K Y (parS ca) σ H QO) : tPart (den K Y ca) σ H QO := by
  obtain ⟨C, W, s, at', p⟩ := h
  refine ⟨C, W, s, at', (Pst.bnd p).imp fun d s1 W1 H1 l1 at1 p1 v rv => ?_⟩
  cases d <;> try exact p1.elim
  cases rv
  exact ⟨_, rfl, p1 W1 H1 (Vw.Le.refl _) at1⟩
def slP : PV → Option Int → Option Int → Option PV
  | .lst xs, lo, hi => some (.lst (cutP xs lo hi))
  | .tup xs, lo, hi => some (.tup (cutP xs lo hi))
  | .scr xs, lo, hi => some (.lst ((cutI xs lo hi).map .int))
  | .str x, lo, hi => if x.length ≤ sizeLine then some (.str (cutS x lo hi)) else none
  | _, _, _ => none
def slM (c : M PV) (lo hi : M (Option Int)) : M PV := bnd c fun d => bnd lo fun a => bnd hi fun b => lft (slP d a b)
def rSlU (K : PySem.W.Frag) : V → Option Int → Option Int → Hp → VK → Prop := fun x lo hi H Q => (rSlL K x lo hi H Q ∨ rSlA K x lo hi H Q) ∨ rSlS x lo hi H Q
theorem sl_u {X : Cx} : SlR X (rSlU X.K) := SlR.or (SlR.or sl_list sl_tupA) sl_str
theorem cut_all {vs : List V} {lo hi : Option Int} (h : HT.sIx vs.length 0 lo = 0 ∧ HT.sIx vs.length vs.length hi = vs.length) : cutV vs lo hi = vs := by
  unfold cutV
  rw [h.1, h.2, List.drop_zero, Nat.sub_zero, List.take_length]
theorem den_sl {lo hi : M (Option Int)} (h : den K Y (slM ca lo hi) σ H Q) : tSl (rSlU K) (den K Y ca) (denP K Y lo) (denP K Y hi) σ H Q := by
  obtain ⟨C, W, s, at', p⟩ := h
  refine ⟨C, W, s, at', (Pst.bnd p).imp fun d s1 W1 H1 l1 at1 p1 v rv => ⟨C, W1, s1, at1, (Pst.bnd p1).imp fun a s2 W2 H2 l2 at2 p2 => ⟨C, W2, s2, at2, (Pst.bnd p2).imp fun b s3 W3 H3 l3 at3 p3 => ?_⟩⟩⟩
  obtain ⟨e', he, q⟩ := p3.lft'
  have q0 := q W3 H3 (Vw.Le.refl W3) at3
  have rv := rv.mono (l2.trans l3)
  unfold slP at he
  split at he
  · cases he
    cases rv with
    | lst hx rx =>
      refine .inl (.inl ⟨_, _, rfl, SqL.of (at3.ok.sub _ _ hx), fun p hp => ?_⟩)
      obtain ⟨W4, l4, at4, r4⟩ := at3.layL hp (rx.cut a b)
      exact q W4 _ l4 at4 _ r4
  · cases he
    cases rv with
    | @tup x vs _ hx rx =>
      refine .inl (.inr ⟨_, _, rfl, same_t at3.ok.sub hx, fun e => ?_, fun _ p hp => ?_⟩)
      · refine q0 _ (.tup hx ?_)
        have := rx.cut a b
        rw [cut_all e] at this
        exact this
      · obtain ⟨W4, l4, at4, r4⟩ := at3.layT hp (rx.cut a b)
        exact q W4 _ l4 at4 _ r4
  · cases he
    cases rv with
    | scr hx =>
      refine .inl (.inl ⟨_, _, rfl, at3.ok.sub.seq hx, fun p hp => ?_⟩)
      rw [cutV_ints]
      obtain ⟨W4, l4, at4, r4⟩ := at3.layL hp (Reps.ints (K := K) (W := W3) _)
      exact q W4 _ l4 at4 _ r4
  · split at he
    · cases he
      cases rv
      exact .inr ⟨_, rfl, by assumption, q0 _ (.str _)⟩
    · cases he
  · cases he
/-! ### built-ins of one argument -/
abbrev Fn1 (r : List V → Hp → VK → Prop) (K : PySem.W.Frag) (f : PV → M PV) : Prop := ∀ (C : Ctx) (W : Vw) (s : S) (σ : L2.St) (H : Hp) (v : V) (a : PV) (Q : VK), At K C W s σ H → RdV K W H v a → Pst K C W σ (f a s) (WantV K Q) → r [v] H Q
abbrev Fn1O (r : List V → Hp → VK → Prop) (K : PySem.W.Frag) (f : PV → M (List PV)) : Prop := ∀ (C : Ctx) (W : Vw) (s : S) (σ : L2.St) (H : Hp) (v : V) (a : PV) (Q : VK), At K C W s σ H → RdV K W H v a → Pst K C W σ (f a s) (WantL K Q) → r [v] H Q
theorem den_fn1 {r : List V → Hp → VK → Prop} {f : PV → M PV} (hf : Fn1 r K f) (h : den K Y (bnd ca f) σ H Q) : tCB r (tCons (den K Y ca) tNil) σ H Q := by
  obtain ⟨C, W, s, at', p⟩ := h
  exact ⟨C, W, s, at', (Pst.bnd p).imp fun a s1 W1 H1 l1 at1 p1 v rv => hf _ W1 s1 σ H1 v a Q at1 (.rep rv) p1⟩
theorem denO_fn1 {r : List V → Hp → VK → Prop} {f : PV → M (List PV)} (hf : Fn1O r K f) (h : denO K Y (bnd ca f) σ H Q) : tCB r (tCons (den K Y ca) tNil) σ H Q := by
  obtain ⟨C, W, s, at', p⟩ := h
  exact ⟨C, W, s, at', (Pst.bnd p).imp fun a s1 W1 H1 l1 at1 p1 v rv => hf _ W1 s1 σ H1 v a Q at1 (.rep rv) p1⟩
def lenP : PV → Option PV
  | .lst xs => some (.int xs.length)
  | .tup xs => some (.int xs.length)
  | .scr xs => some (.int xs.length)
  | .str x => if x.length ≤ sizeLine then some (.int x.length) else none
  | _ => none
abbrev rLen (K : PySem.W.Frag) : List V → Hp → VK → Prop := fun xs H Q => ∃ x n, xs = [x] ∧ LenV K x H n ∧ Q (.int n) H
theorem fn_len : Fn1 (rLen K) K (fun a => lft (lenP a)) := by
  intro C W s σ H v a Q at' ra p
  obtain ⟨d, e, q⟩ := p.lft'
  have q0 := q W H (Vw.Le.refl W) at'
  unfold lenP at e
  split at e
  · cases e
    obtain ⟨x, vs, rfl, hx, rx⟩ := ra.lst at'.ok.sub
    exact ⟨_, _, rfl, .inl ⟨_, SqL.of hx, rfl⟩, q0 _ (by rw [rx.length]; exact .int _)⟩
  · cases e
    obtain ⟨x, vs, rfl, hx, hx2, rx⟩ := ra.tup at'.ok.sub
    exact ⟨_, _, rfl, .inr ⟨_, hx2, rfl⟩, q0 _ (by rw [rx.length]; exact .int _)⟩
  · cases e
    obtain ⟨x, rfl, hx⟩ := ra.scr at'.ok.sub
    exact ⟨_, _, rfl, .inl ⟨_, hx, rfl⟩, q0 _ (by rw [List.length_map]; exact .int _)⟩
  · split at e
    · cases e
      cases ra.str
      exact ⟨_, _, rfl, ⟨by assumption, rfl⟩, q0 _ (.int _)⟩
    · cases e
  · cases e
def absP : PV → Option PV
  | .int i => some (.int (if i < 0 then -i else i))
  | _ => none
theorem fn_abs : Fn1 (fun xs H Q => ∃ i, xs = [.int i] ∧ Q (.int (if i < 0 then -i else i)) H) K (fun a => lft (absP a)) := by
  intro C W s σ H v a Q at' ra p
  obtain ⟨d, e, q⟩ := p.lft'
  have q0 := q W H (Vw.Le.refl W) at'
  unfold absP at e
  split at e
  · cases e
    cases ra.int
    exact ⟨_, rfl, q0 _ (.int _)⟩
  · cases e
def intP : PV → Option PV
  | .int i => some (.int i)
  | _ => none
theorem fn_int : Fn1 (fun xs H Q => (∃ i, xs = [.int i] ∧ Q (.int i) H) ∨ ∃ k, xs = [.bl k] ∧ Q (.int (if k then 1 else 0)) H) K (fun a => lft (intP a)) := by
  intro C W s σ H v a Q at' ra p
  obtain ⟨d, e, q⟩ := p.lft'
  have q0 := q W H (Vw.Le.refl W) at'
  unfold intP at e
  split at e
  · cases e
    cases ra.int
    exact .inl ⟨_, rfl, q0 _ (.int _)⟩
  · cases e
def blsOf : List PV → Option (List Bool)
  | [] => some []
  | .bl x :: r => (blsOf r).map (x :: ·)
  | _ :: _ => none
theorem blsOf_ok : ∀ {ds : List PV} {xs : List Bool}, blsOf ds = some xs → ds = xs.map PV.bl
  | [], xs, h => by cases h; rfl
  | .bl x :: r, xs, h => by
    have h : (blsOf r).map (x :: ·) = some xs := h
    obtain ⟨ys, e, rfl⟩ := Option.map_eq_some_iff.mp h
    rw [blsOf_ok e]
    rfl
  | .non :: _, _, h => by cases h
  | .str _ :: _, _, h => by cases h
  | .int _ :: _, _, h => by cases h
  | .tup _ :: _, _, h => by cases h
  | .lst _ :: _, _, h => by cases h
  | .scr _ :: _, _, h => by cases h
  | .hnd _ :: _, _, h => by cases h
  | .obj .. :: _, _, h => by cases h
  | .exn .. :: _, _, h => by cases h
  | .dic .. :: _, _, h => by cases h
theorem blsOf_map (xs : List Bool) : blsOf (xs.map PV.bl) = some xs := by
  induction xs with
  | nil => rfl
  | cons x r ih => show (blsOf (r.map PV.bl)).map (x :: ·) = _; rw [ih]; rfl
def allP : PV → Option PV
  | .lst xs => (blsOf xs).map fun bs => .bl (bs.all id)
  | _ => none
theorem fn_all : Fn1 (rAll K) K (fun a => lft (allP a)) := by
  intro C W s σ H v a Q at' ra p
  obtain ⟨d, e, q⟩ := p.lft'
  have q0 := q W H (Vw.Le.refl W) at'
  unfold allP at e
  split at e
  · obtain ⟨bs, e1, rfl⟩ := Option.map_eq_some_iff.mp e
    obtain ⟨x, vs, rfl, hx, rx⟩ := ra.lst at'.ok.sub
    have ew := blsOf_ok e1
    subst ew
    have ew := rx.of_bls
    subst ew
    exact ⟨x, bs, rfl, SqL.of hx, q0 _ (.bl _)⟩
  · cases e
def listP : PV → Option (List PV)
  | .lst xs => some xs
  | .tup xs => some xs
  | .scr xs => some (xs.map .int)
  | _ => none
abbrev rListOf (K : PySem.W.Frag) : List V → Hp → VK → Prop := fun xs H Q => ∃ p ys, xs = [.ref p] ∧ (SqL K H p ys ∨ SqT K H p ys) ∧ ∀ l, H l = none → Q (.ref l) (upd H l (.lst ys))
theorem fn_list : Fn1O (rListOf K) K (fun a => lft (listP a)) := by
  intro C W s σ H v a Q at' ra p
  obtain ⟨d, e, q⟩ := p.lft'
  have q0 := q W H (Vw.Le.refl W) at'
  unfold listP at e
  split at e
  · cases e
    obtain ⟨x, vs, rfl, hx, rx⟩ := ra.lst at'.ok.sub
    exact ⟨x, vs, rfl, .inl (SqL.of hx), fun l hl => q0 l vs hl rx⟩
  · cases e
    obtain ⟨x, vs, rfl, hx, hx2, rx⟩ := ra.tup at'.ok.sub
    exact ⟨x, vs, rfl, .inr hx2, fun l hl => q0 l vs hl rx⟩
  · cases e
    obtain ⟨x, rfl, hx⟩ := ra.scr at'.ok.sub
    exact ⟨x, _, rfl, .inl hx, fun l hl => q0 l _ hl (Reps.ints _)⟩
  · cases e
def tupleP : PV → Option PV
  | .lst xs => some (.tup xs)
  | .tup xs => some (.tup xs)
  | _ => none
/-! ### methods -/
def joinP (a : Str) : PV → Option PV
  | .lst ys => match strsOf ys with
    | some zs => if (zs.map (·.length)).sum + zs.length * a.length ≤ 16777216 then some (.str (Txt.join a zs)) else none
    | none => none
  | _ => none
def joinM (ca cb : M PV) : M PV := bnd ca fun a => match a with
  | .str x => bnd cb fun b => lft (joinP x b)
  | _ => stuck
abbrev rJoin (K : PySem.W.Frag) : V → List V → Hp → VK → Prop := fun x xs H Q => ∃ a p, ∃ ys : List Str, x = .str a ∧ xs = [.ref p] ∧ (SqL K H p (ys.map V.str) ∨ SqT K H p (ys.map V.str)) ∧ (ys.map (·.length)).sum + ys.length * a.length ≤ 16777216 ∧ Q (.str (Txt.join a ys)) H
theorem den_join (h : den K Y (joinM ca cb) σ H Q) : tM1 (rJoin K) (den K Y ca) (den K Y cb) σ H Q := by
  obtain ⟨C, W, s, at', p⟩ := h
  refine ⟨C, W, s, at', (Pst.bnd p).imp fun a s1 W1 H1 l1 at1 p1 v rv => ?_⟩
  cases a <;> try exact p1.elim
  rename_i x
  cases rv
  refine ⟨⟨_, rfl⟩, C, W1, s1, at1, (Pst.bnd p1).imp fun b s2 W2 H2 l2 at2 p2 w rw' => ?_⟩
  obtain ⟨d, e, q⟩ := p2.lft'
  have q0 := q W2 H2 (Vw.Le.refl W2) at2
  unfold joinP at e
  split at e
  · split at e
    · rename_i zs e1
      split at e
      · cases e
        cases rw' with
        | lst hx rx =>
          have ew := strsOf_ok e1
          subst ew
          have ew := rx.of_strs
          subst ew
          exact ⟨_, _, zs, rfl, rfl, .inl (SqL.of (at2.ok.sub _ _ hx)), by assumption, q0 _ (.str _)⟩
      · cases e
    · cases e
  · cases e
/-- x.append(e), x a name that owns its list -/
def chkO (i : Nat) : M Unit := fun s => match s.env[i]? with
  | some (some (.own _)) => .ok () s
  | _ => .stk
theorem chkO_ok {α : Type} {f : Unit → M α} {Q : α → S → Vw → Hp → Prop} (h : At K C W s σ H) (p : Pst K C W σ (bnd (chkO i) f s) Q) : (∃ xs, s.env[i]? = some (some (.own xs))) ∧ Pst K C W σ (f () s) Q := by
  unfold bnd chkO at p
  split at p
  · rename_i a s' e
    split at e
    · rename_i xs he
      cases e
      exact ⟨⟨_, he⟩, p⟩
    · cases e
  · rename_i e
    split at e <;> cases e
  · exact p.elim
def pushM (i : Nat) (d : PV) : M PV := fun s => match s.env[i]? with
  | some (some (.own xs)) => if xs.length < sizeLine then .ok .non { s with env := s.env.set i (some (.own (xs ++ [d]))) } else .stk
  | _ => .stk
def appM (i : Nat) (ca : M PV) : M PV := bnd (chkO i) fun _ => bnd ca fun d => pushM i d
theorem den_app (h : den K Y (appM i ca) σ H Q) : tBM K "list" rAppend (tVar i) (tCons (den K Y ca) tNil) σ H Q := by
  obtain ⟨C, W, s, at', p⟩ := h
  obtain ⟨⟨xs, e⟩, p⟩ := chkO_ok at' p
  obtain ⟨a, vs, e1, ow, e2, r⟩ := at'.own i xs e
  refine ⟨.ref a, e1, .inl ⟨rfl, vs, SqL.of e2⟩, C, W, s, at', (Pst.bnd p).imp fun d s1 W1 H1 l1 at1 p1 v rv => ?_⟩
  unfold pushM at p1
  split at p1
  · rename_i ys he
    split at p1
    · rename_i hl
      obtain ⟨a', vs', f1, ow', f2, r'⟩ := at1.own i ys he
      rw [e1] at f1
      cases f1
      refine ⟨a, vs', v, rfl, rfl, f2, by rw [r'.length]; exact hl, ?_⟩
      exact p1 W1 _ (Vw.Le.refl _) (at1.change he e1 (r'.append (.cons rv .nil))) _ .non
    · exact p1.elim
  · exact p1.elim
end
/-! ### handles -/
def valP (kvs : List (Key × PV)) (k : Key) : Option PV := (kvs.find? fun kv => decide (kv.1 = k)).map (·.2)
def putP (kvs : List (Key × PV)) (k : Key) (v : PV) : List (Key × PV) :=
  if (kvs.any fun kv => decide (kv.1 = k)) = true then kvs.map (fun kv => if kv.1 = k then (kv.1, v) else kv) else kvs ++ [(k, v)]
def mergeP (kvs more : List (Key × PV)) : List (Key × PV) := more.foldl (fun acc kv => putP acc kv.1 kv.2) kvs
section
variable {Y : WX} {K : PySem.W.Frag} {C : Ctx} {W W' : Vw} {σ : L2.St} {H : Hp} {s : S} {v w : V} {d : PV} {Q : VK} {i : Nat} {ca cb cd : M PV}
theorem KVs.get : ∀ {r : List (Key × V)} {q : List (Key × PV)} {k : Key} {d : PV}, KVs K W r q → valP q k = some d → ∃ v, valV r k = some v ∧ Rep K W v d
  | _, _, k, d, .nil, h => by cases h
  | _, _, k, d, .cons (k := k') (v := v) (d := d') (r := r) (s := q) h t, e => by
    unfold valP at e
    unfold valV
    rw [List.find?_cons] at e ⊢
    by_cases hk : k' = k
    · rw [decide_eq_true (show ((k', d') : Key × PV).1 = k from hk)] at e
      rw [decide_eq_true (show ((k', v) : Key × V).1 = k from hk)]
      cases e
      exact ⟨v, rfl, h⟩
    · rw [decide_eq_false (show ¬ ((k', d') : Key × PV).1 = k from hk)] at e
      rw [decide_eq_false (show ¬ ((k', v) : Key × V).1 = k from hk)]
      exact KVs.get t e
theorem KVs.length : ∀ {r : List (Key × V)} {q : List (Key × PV)}, KVs K W r q → r.length = q.length
  | _, _, .nil => rfl
  | _, _, .cons _ t => congrArg Nat.succ (KVs.length t)
theorem KVs.any : ∀ {r : List (Key × V)} {q : List (Key × PV)} {k : Key}, KVs K W r q → (r.any fun kv => decide (kv.1 = k)) = (q.any fun kv => decide (kv.1 = k))
  | _, _, _, .nil => rfl
  | _, _, k, .cons _ t => by
    rw [List.any_cons, List.any_cons, KVs.any t]
theorem KVs.append : ∀ {r r' : List (Key × V)} {q q' : List (Key × PV)}, KVs K W r q → KVs K W r' q' → KVs K W (r ++ r') (q ++ q')
  | _, _, _, _, .nil, t => t
  | _, _, _, _, .cons h t, u => .cons h (KVs.append t u)
theorem KVs.over {k : Key} (h : Rep K W v d) : ∀ {r : List (Key × V)} {q : List (Key × PV)}, KVs K W r q → KVs K W (r.map (fun kv => if kv.1 = k then (kv.1, v) else kv)) (q.map (fun kv => if kv.1 = k then (kv.1, d) else kv))
  | _, _, .nil => .nil
  | _, _, .cons (k := k') (v := v') (d := d') g t => by
    rw [List.map_cons, List.map_cons]
    by_cases hk : k' = k
    · rw [if_pos (show ((k', v') : Key × V).1 = k from hk), if_pos (show ((k', d') : Key × PV).1 = k from hk)]
      exact .cons h (KVs.over h t)
    · rw [if_neg (show ¬ ((k', v') : Key × V).1 = k from hk), if_neg (show ¬ ((k', d') : Key × PV).1 = k from hk)]
      exact .cons g (KVs.over h t)
theorem KVs.put {k : Key} {r : List (Key × V)} {q : List (Key × PV)} (t : KVs K W r q) (h : Rep K W v d) : KVs K W (putK r k v) (putP q k d) := by
  unfold putK putP
  rw [t.any]
  split
  · exact t.over h
  · exact t.append (.cons h .nil)
theorem KVs.merge : ∀ {m r : List (Key × V)} {n q : List (Key × PV)}, KVs K W m n → KVs K W r q → KVs K W (mergeK r m) (mergeP q n)
  | _, _, _, _, .nil, t => t
  | _, _, _, _, .cons (k := k) (v := v) (d := d) (r := m) (s := n) h u, t => by
    show KVs K W (mergeK (putK _ k v) m) (mergeP (putP _ k d) n)
    exact KVs.merge u (t.put h)
/-- d['k'] of a handle -/
def hgetP : PV → PV → M PV := fun a b s => match a, b with
  | .hnd n, .str k => match s.sto[n]? with
    | some (.dic kvs) => match valP kvs (.inr k) with
      | some d => .ok d s
      | none => .stk
    | _ => .stk
  | _, _ => .stk
theorem bin_hget : Bin (fun x y H Q => ∃ a v, x = .ref a ∧ DGet H a y (some v) ∧ Q v H) K hgetP := by
  intro C W s σ H v w a b Q at' ra rb p
  unfold hgetP at p
  split at p
  · rename_i n k
    split at p
    · rename_i kvs hs
      split at p
      · rename_i d hd
        obtain ⟨x, rfl, hx⟩ := ra.hnd
        cases rb.str
        cases (at'.ok.live hx hs (fun z => nomatch z)).2 with
        | dic hH kv =>
          obtain ⟨y, hy, ry⟩ := kv.get hd
          refine ⟨x, y, rfl, ?_, p W H (Vw.Le.refl _) at' _ ry⟩
          rw [← hy]
          exact DGet.k (k := Sum.inr k) hH
      · exact p.elim
    · exact p.elim
  · exact p.elim
theorem den_hget (h : den K Y (bin ca cb hgetP) σ H Q) : tDGet (den K Y ca) (den K Y cb) σ H Q := den_bin bin_hget h
/-- a handle's object changed -/
theorem At.putG {n : Nat} {a : Addr} {o : HO} {mo mo' : MO} (h : At K C W s σ H) (hn : W.hs[n]? = some a) (hm : s.sto[n]? = some mo) (hg : mo ≠ .gone) (r : MRep K W (upd H a o) a mo') : At K C W { s with sto := s.sto.set n mo' } σ (upd H a o) := by
  obtain ⟨fa, _⟩ := h.ok.live hn hm hg
  have hnl : n < s.sto.length := (List.getElem?_eq_some_iff.mp hm).1
  refine ⟨⟨fun b u e => ?_, fun m b e => ?_, h.ok.nd, by rw [List.length_set]; exact h.ok.len⟩, fun b u e hb => ?_, h.pre, h.gro, h.len, h.val, fun j ys e => ?_, h.dst⟩
  · rw [upd_ne (ne_of_none e fa)]
    exact h.ok.sub b u e
  · by_cases hb : b = a
    · subst hb
      have hmn : m = n := by
        obtain ⟨x1, y1⟩ := List.getElem?_eq_some_iff.mp e
        obtain ⟨x2, y2⟩ := List.getElem?_eq_some_iff.mp hn
        exact (List.getElem_inj h.ok.nd).mp (y1.trans y2.symm)
      subst hmn
      exact .inl ⟨fa, _, List.getElem?_set_self hnl, r⟩
    · have hmn : n ≠ m := fun z => by
        subst z
        rw [hn] at e
        cases e
        exact hb rfl
      exact (h.ok.hnd m b e).map rfl (List.getElem?_set_ne hmn) fun mo g3 => g3.other hb
  · have hba : b ≠ a := fun z => by
      subst z
      have hg : C.G b ≠ none := by rw [e]; exact fun q => nomatch q
      exact hb ((h.gro b hg).2 (List.mem_of_getElem? hn))
    rw [upd_ne hba]
    exact h.keep b u e hb
  · obtain ⟨b, ws, e1, ow, e2, r2⟩ := h.own j ys e
    have hba : b ≠ a := fun z => ow.h (by rw [z]; exact List.mem_of_getElem? hn)
    exact ⟨b, ws, e1, ow, by rw [upd_ne hba]; exact e2, r2⟩
theorem At.put {n : Nat} {a : Addr} {kvs : List (Key × V)} {q : List (Key × PV)} {mo : MO} (h : At K C W s σ H) (hn : W.hs[n]? = some a) (hm : s.sto[n]? = some mo) (hg : mo ≠ .gone) (r : KVs K W kvs q) : At K C W { s with sto := s.sto.set n (.dic q) } σ (upd H a (.dK kvs)) := h.putG hn hm hg (.dic upd_same r)
/-- d['k'] = v -/
def hputM (cd ck cv : M PV) : M Fl := bnd cv fun v => bnd cd fun a => bnd ck fun b => fun s => match a, b with
  | .hnd n, .str k => match s.sto[n]? with
    | some (.dic kvs) => if kvs.length < sizeLine then .ok .nx { s with sto := s.sto.set n (.dic (putP kvs (.inr k) v)) } else .stk
    | _ => .stk
  | _, _ => .stk
end
/-! ### statements: what is wanted of an expression within -/
section
variable {Y : WX} {K : PySem.W.Frag} {C : Ctx} {W W' : Vw} {σ : L2.St} {H : Hp} {s : S} {α : Type} {D : Ends}
theorem PstS.up {r : Res S Fl} (l : W.Le W') (h : PstS K C W D r) : PstS K C W' D r := by
  cases r with
  | ok a s' => exact fun W2 σ2 H2 l2 at2 => h W2 σ2 H2 (l.trans l2) at2
  | exc e s' => exact fun W2 σ2 H2 cls d l2 at2 r => h W2 σ2 H2 cls d (l.trans l2) at2 r
  | stk => exact h
theorem PstS.bnd {c : M α} {f : α → M Fl} (h : PstS K C W D (Dn.bnd c f s)) : Pst K C W σ (c s) (fun a s1 W1 _ => PstS K C W1 D (f a s1)) := by
  unfold Dn.bnd at h
  cases e : c s with
  | ok a s1 =>
    rw [e] at h
    exact fun W1 H1 l _ => h.up l
  | exc => rw [e] at h; exact h
  | stk => rw [e] at h; exact h
theorem den_hput {cd ck cv : M PV} (h : denS K Y (hputM cd ck cv) D σ H) : sDPut (den K Y cd) (den K Y ck) (den K Y cv) D σ H := by
  obtain ⟨C, W, s, at', p⟩ := h
  refine ⟨C, W, s, at', (PstS.bnd p).imp fun v s1 W1 H1 l1 at1 p1 x rx => ⟨C, W1, s1, at1, (PstS.bnd p1).imp fun a s2 W2 H2 l2 at2 p2 y ry => ⟨C, W2, s2, at2, (PstS.bnd p2).imp fun b s3 W3 H3 l3 at3 p3 z rz => ?_⟩⟩⟩
  split at p3
  · rename_i n k
    split at p3
    · rename_i kvs hs
      split at p3
      · rename_i hl
        cases rz
        have ry := ry.mono l3
        cases ry with
        | hnd hx =>
          rename_i a
          cases (at3.ok.live hx hs (fun z => nomatch z)).2 with
          | dic hH kv =>
            refine ⟨a, _, rfl, DPut.k (k := Sum.inr k) hH (by rw [kv.length]; exact hl), ?_⟩
            exact p3 W3 _ _ (Vw.Le.refl _) (at3.put hx hs (fun z => nomatch z) (kv.put (rx.mono (l2.trans l3))))
      · exact p3.elim
    · exact p3.elim
  · exact p3.elim
end
end Dn
/-! Den4: dict displays, comprehensions, statements. -/
namespace Dn
open PySem L2
/-! ### an address held apart while something is made -/
def Ctx.res (C : Ctx) (D : Addr) (o : HO) : Ctx := { G := upd C.G D o, F0 := fun b => if b = D then none else C.F0 b, hs0 := C.hs0, X := C.X }
def del (H : Hp) (D : Addr) : Hp := fun b => if b = D then none else H b
theorem del_same {H : Hp} {D : Addr} : del H D D = none := if_pos rfl
theorem del_ne {H : Hp} {D b : Addr} (h : b ≠ D) : del H D b = H b := if_neg h
theorem upd_del {H : Hp} {D : Addr} {o : HO} (h : H D = some o) : upd (del H D) D o = H := by
  funext b
  by_cases hb : b = D
  · subst hb; rw [upd_same, h]
  · rw [upd_ne hb, del_ne hb]
section
variable {Y : WX} {K : PySem.W.Frag} {C : Ctx} {W W' : Vw} {σ : L2.St} {H : Hp} {s : S} {v w : V} {d : PV} {Q : VK} {i : Nat} {ca cb cd : M PV} {D : Addr} {o : HO}
theorem At.resIn (h : At K C W s σ H) (hD : H D = none) (o : HO) : At K (C.res D o) W s σ (upd H D o) := by
  obtain ⟨f1, f2, f3⟩ := h.fresh hD
  refine ⟨⟨fun b u e => ?_, fun n b e => ?_, h.ok.nd, h.ok.len⟩, fun b u e hb => ?_, h.pre, fun b hb => ?_, h.len, h.val, fun j ys e => ?_, h.dst⟩
  · rw [upd_ne (ne_of_none e f1)]
    exact h.ok.sub b u e
  · exact (h.ok.hnd n b e).map rfl rfl fun mo g3 => g3.other fun z => f2 (by rw [← z]; exact List.mem_of_getElem? e)
  · by_cases hbD : b = D
    · subst hbD
      have e : upd C.G b o b = some u := e
      rw [upd_same] at e ⊢
      exact e
    · have e : upd C.G D o b = some u := e
      rw [upd_ne hbD] at e ⊢
      exact h.keep b u e hb
  · by_cases hbD : b = D
    · subst hbD
      exact ⟨by show _ = (if b = b then none else C.F0 b); rw [if_pos rfl]; exact f1, fun z => absurd z f2⟩
    · have hb : upd C.G D o b ≠ none := hb
      rw [upd_ne hbD] at hb
      obtain ⟨g1, g2⟩ := h.gro b hb
      exact ⟨by show _ = (if b = D then none else C.F0 b); rw [if_neg hbD]; exact g1, g2⟩
  · obtain ⟨b, ws, e1, ow, e2, r2⟩ := h.own j ys e
    have hb : b ≠ D := ne_of_none e2 hD
    exact ⟨b, ws, e1, ⟨ow.f, ow.h, by show upd C.G D o b = none; rw [upd_ne hb]; exact ow.g⟩, by rw [upd_ne hb]; exact e2, r2⟩
theorem At.resOut (h : At K (C.res D o) W s σ H) (hG : C.G D = none) (hh : D ∉ C.hs0) : del H D D = none ∧ upd (del H D) D o = H ∧ At K C W s σ (del H D) := by
  have eD : (C.res D o).G D = some o := upd_same
  have hHD : H D = some o := h.keep D o eD hh
  have gD : (C.res D o).G D ≠ none := by rw [eD]; exact fun z => nomatch z
  obtain ⟨g1, g2⟩ := h.gro D gD
  have g1 : W.F D = none := by rw [g1]; show (if D = D then none else C.F0 D) = none; rw [if_pos rfl]
  have g2 : D ∉ W.hs := fun z => hh (g2 z)
  refine ⟨del_same, upd_del hHD, ⟨⟨fun b u e => ?_, fun n b e => ?_, h.ok.nd, h.ok.len⟩, fun b u e hb => ?_, h.pre, fun b hb => ?_, h.len, h.val, fun j ys e => ?_, h.dst⟩⟩
  · rw [del_ne (ne_of_none e g1)]
    exact h.ok.sub b u e
  · have hb : b ≠ D := fun z => g2 (by rw [← z]; exact List.mem_of_getElem? e)
    exact (h.ok.hnd n b e).map rfl rfl fun mo k3 => k3.at (del_ne hb)
  · have hbD : b ≠ D := fun z => by rw [z, hG] at e; cases e
    rw [del_ne hbD]
    refine h.keep b u ?_ hb
    show upd C.G D o b = _
    rw [upd_ne hbD]
    exact e
  · have hbD : b ≠ D := fun z => by rw [z] at hb; exact hb hG
    obtain ⟨k1, k2⟩ := h.gro b (by show upd C.G D o b ≠ none; rw [upd_ne hbD]; exact hb)
    have k1 : W.F b = (if b = D then none else C.F0 b) := k1
    rw [if_neg hbD] at k1
    exact ⟨k1, k2⟩
  · obtain ⟨b, ws, e1, ow, e2, r2⟩ := h.own j ys e
    have og : upd C.G D o b = none := ow.g
    have hb : b ≠ D := fun z => by rw [z, upd_same] at og; cases og
    rw [upd_ne hb] at og
    exact ⟨b, ws, e1, ⟨ow.f, ow.h, og⟩, by rw [del_ne hb]; exact e2, r2⟩
theorem At.nohs (h : At K C W s σ H) (hD : H D = none) : C.G D = none ∧ D ∉ C.hs0 := by
  obtain ⟨_, f2, f3⟩ := h.fresh hD
  refine ⟨f3, fun hm => f2 ?_⟩
  obtain ⟨n, hn⟩ := List.getElem?_of_mem hm
  exact List.mem_of_getElem? (h.pre n D hn)
/-- something new that nobody knows of -/
theorem At.extra {p : Addr} (h : At K C W s σ H) (hp : H p = none) (o : HO) : At K C W s σ (upd H p o) := by
  obtain ⟨f1, f2, f3⟩ := h.fresh hp
  refine ⟨⟨fun b u e => ?_, fun n b e => ?_, h.ok.nd, h.ok.len⟩, fun b u e hb => ?_, h.pre, h.gro, h.len, h.val, fun j ys e => ?_, h.dst⟩
  · rw [upd_ne (ne_of_none e f1)]
    exact h.ok.sub b u e
  · exact (h.ok.hnd n b e).map rfl rfl fun mo g3 => g3.other fun z => f2 (by rw [← z]; exact List.mem_of_getElem? e)
  · rw [upd_ne (fun z => by rw [z, f3] at e; cases e)]
    exact h.keep b u e hb
  · obtain ⟨b, ws, e1, ow, e2, r2⟩ := h.own j ys e
    exact ⟨b, ws, e1, ow, by rw [upd_ne (ne_of_none e2 hp)]; exact e2, r2⟩
theorem At.resExt (h : At K (C.res D o) W s σ H) (hG : C.G D = none) (hh : D ∉ C.hs0) : At K C W s σ H := by
  obtain ⟨e1, e2, a⟩ := h.resOut hG hh
  have a2 := a.extra e1 o
  rw [e2] at a2
  exact a2
/-- what is wanted, while D is held apart -/
theorem Pst.res {α : Type} {r : Res S α} {Q : α → S → Vw → Hp → Prop} (hG : C.G D = none) (hh : D ∉ C.hs0) (h : Pst K C W σ r Q) : Pst K (C.res D o) W σ r (fun a s' W' H' => Q a s' W' (del H' D)) := by
  cases r with
  | ok a s' => exact fun W' H' l at' => h W' _ l (at'.resOut hG hh).2.2
  | exc e s' => exact fun W' σ' H' cls d l at' r => h W' σ' H' cls d l (at'.resExt hG hh) r
  | stk => exact h
/-- a new handle -/
theorem At.newH {p : Addr} {r : List (Key × V)} {q : List (Key × PV)} (h : At K C W s σ H) (hp : H p = none) (k : KVs K W r q) :
    W.Le ⟨W.F, W.hs ++ [p]⟩ ∧ At K C ⟨W.F, W.hs ++ [p]⟩ { s with sto := s.sto ++ [.dic q] } σ (upd H p (.dK r)) ∧ Rep K ⟨W.F, W.hs ++ [p]⟩ (.ref p) (.hnd s.sto.length) := by
  obtain ⟨f1, f2, f3⟩ := h.fresh hp
  have le : W.Le ⟨W.F, W.hs ++ [p]⟩ := ⟨Same.refl _, fun n a e => by
    have := (List.getElem?_eq_some_iff.mp e).1
    show (W.hs ++ [p])[n]? = _
    rw [List.getElem?_append_left this]
    exact e⟩
  refine ⟨le, ⟨⟨fun b u e => ?_, fun n b e => ?_, ?_, ?_⟩, fun b u e hb => ?_, fun n b e => le.pre n b (h.pre n b e), fun b hb => ?_, h.len, fun j e he => ?_, fun j ys e => ?_, h.dst⟩, .hnd ?_⟩
  · rw [upd_ne (ne_of_none e f1)]
    exact h.ok.sub b u e
  · have e : (W.hs ++ [p])[n]? = some b := e
    by_cases hn : n < W.hs.length
    · rw [List.getElem?_append_left hn] at e
      refine (h.ok.hnd n b e).map rfl ?_ fun mo g3 => (g3.other fun z => f2 (by rw [← z]; exact List.mem_of_getElem? e)).mono le
      show (s.sto ++ _)[n]? = _
      rw [List.getElem?_append_left (by rw [h.ok.len]; exact hn)]
    · rw [List.getElem?_append_right (by omega)] at e
      have hz : n - W.hs.length = 0 := by
        have := (List.getElem?_eq_some_iff.mp e).1
        simp at this
        omega
      rw [hz] at e
      cases e
      refine .inl ⟨f1, .dic q, ?_, .dic upd_same (k.mono le)⟩
      show (s.sto ++ [MO.dic q])[n]? = _
      rw [List.getElem?_append_right (by rw [h.ok.len]; omega), h.ok.len, hz]
      rfl
  · show (W.hs ++ [p]).Nodup
    rw [List.nodup_append]
    exact ⟨h.ok.nd, by simp, fun a ha b hb => by
      rw [List.mem_singleton] at hb
      subst hb
      exact fun z => f2 (by rw [← z]; exact ha)⟩
  · show (s.sto ++ _).length = (W.hs ++ _).length
    rw [List.length_append, List.length_append, h.ok.len]
    rfl
  · rw [upd_ne (fun z => by rw [z, f3] at e; cases e)]
    exact h.keep b u e hb
  · obtain ⟨g1, g2⟩ := h.gro b hb
    refine ⟨g1, fun hm => ?_⟩
    rcases List.mem_append.mp hm with hm | hm
    · exact g2 hm
    · rw [List.mem_singleton] at hm
      rw [hm] at hb
      exact absurd f3 hb
  · obtain ⟨v, e1, r⟩ := h.val j e he
    exact ⟨v, e1, r.mono le⟩
  · obtain ⟨b, ws, e1, ow, e2, r2⟩ := h.own j ys e
    have hb : b ≠ p := ne_of_none e2 hp
    refine ⟨b, ws, e1, ⟨ow.f, fun hm => ?_, ow.g⟩, by rw [upd_ne hb]; exact e2, r2.mono le⟩
    rcases List.mem_append.mp hm with hm | hm
    · exact ow.h hm
    · exact hb (List.mem_singleton.mp hm)
  · show (W.hs ++ [p])[s.sto.length]? = _
    rw [h.ok.len, List.getElem?_append_right (Nat.le_refl _), Nat.sub_self]
    rfl
/-! ### {'k': e, ..}: a new handle -/
def prsM : List (Str × M PV) → M (List (Key × PV))
  | [] => ret []
  | (k, c) :: r => bnd c fun d => bnd (prsM r) fun ds => ret ((.inr k, d) :: ds)
def trsOf (K : PySem.W.Frag) (Y : WX) (kcs : List (Str × M PV)) : List (TE × TE) := kcs.map fun p => (tC (.str p.1), den K Y p.2)
def dispM (kcs : List (Str × M PV)) : M PV := bnd (prsM kcs) fun kvs s => if kvs.length ≤ 15 then .ok (.hnd s.sto.length) { s with sto := s.sto ++ [.dic (mergeP [] kvs)] } else .stk
theorem den_prs : ∀ (kcs : List (Str × M PV)) {C : Ctx} {W : Vw} {s : S} {H : Hp} {QP : List (V × V) → Hp → Prop}, At K (C.wi Y) W s σ H →
    Pst K (C.wi Y) W σ (prsM kcs s) (fun kvs _ W' H' => ∀ r : List (Key × V), KVs K W' r kvs → QP (r.map fun kv => (kV kv.1, kv.2)) H') → tPairs (trsOf K Y kcs) σ H QP
  | [], C, W, s, H, QP, at', p => p W H (Vw.Le.refl _) at' [] .nil
  | (k, c) :: r, C, W, s, H, QP, at', p => by
    refine ⟨C, W, s, at', (Pst.bnd p).imp fun d s1 W1 H1 l1 at1 p1 v rv => ?_⟩
    refine den_prs r at1 ((Pst.bnd p1).imp fun kvs s2 W2 H2 l2 at2 p2 q hq => ?_)
    exact p2 W2 H2 (Vw.Le.refl _) at2 ((.inr k, v) :: q) (.cons (rv.mono l2) hq)
theorem den_disp {kcs : List (Str × M PV)} (h : den K Y (dispM kcs) σ H Q) : tDisp (trsOf K Y kcs) σ H Q := by
  obtain ⟨C, W, s, at', p⟩ := h
  intro q hq
  obtain ⟨hG, hh⟩ := at'.nohs hq
  have p1 := (Pst.bnd p).res (o := .dK []) hG hh
  refine den_prs (C := C.res q (.dK [])) kcs (at'.resIn hq (.dK [])) (p1.imp fun kvs s1 W1 H1 l1 at1 p2 r hr => ?_)
  obtain ⟨e1, e2, at2⟩ := at1.resOut hG hh
  have hp : H1 q = some (.dK []) := at1.keep q _ upd_same hh
  refine ⟨hp, r, rfl, ?_⟩
  split at p2
  · rename_i hl
    refine ⟨by rw [hr.length]; exact hl, ?_⟩
    obtain ⟨l3, at3, r3⟩ := at2.newH e1 (KVs.merge hr .nil)
    have p3 := p2 _ _ l3 at3 _ r3
    have e3 : upd (del H1 q) q (.dK (mergeK [] r)) = upd H1 q (.dK (mergeK [] r)) := by
      rw [← e2, upd_upd, e2]
    rw [e3] at p3
    exact p3
  · exact p2.elim
/-! ### the slots of a block forgotten -/
def wip (e : Env) : List Nat → Env
  | [] => e
  | v :: vs => (wip e vs).set v none
theorem wip_length (e : Env) : ∀ vs : List Nat, (wip e vs).length = e.length
  | [] => rfl
  | v :: vs => by unfold wip; rw [List.length_set, wip_length e vs]
theorem wip_some {e : Env} {j : Nat} {x : SV} : ∀ {vs : List Nat}, (wip e vs)[j]? = some (some x) → e[j]? = some (some x) ∧ j ∉ vs
  | [], h => ⟨h, by simp⟩
  | v :: vs, h => by
    unfold wip at h
    by_cases hi : v = j
    · subst hi
      by_cases hv : v < (wip e vs).length
      · rw [List.getElem?_set_self hv] at h; cases h
      · rw [List.getElem?_eq_none (by simpa using hv)] at h; cases h
    · rw [List.getElem?_set_ne hi] at h
      obtain ⟨h1, h2⟩ := wip_some h
      exact ⟨h1, by simp only [List.mem_cons, not_or]; exact ⟨fun e => hi e.symm, h2⟩⟩
theorem wipe_in {σ : L2.St} {j : Nat} : ∀ {vs : List Nat}, j ∈ vs → j < σ.length → (wipe σ vs)[j]? = some none
  | v :: vs, h, hl => by
    unfold wipe
    by_cases hi : v = j
    · subst hi
      exact List.getElem?_set_self (by rw [wipe_length]; exact hl)
    · rw [List.getElem?_set_ne hi]
      exact wipe_in ((List.mem_cons.mp h).resolve_left fun e => hi e.symm) hl
theorem wipe_ext {σ τ : L2.St} {vs : List Nat} (hl : σ.length = τ.length) (h : ∀ j, j ∉ vs → σ[j]? = τ[j]?) : wipe σ vs = wipe τ vs := by
  apply List.ext_getElem?
  intro j
  by_cases hj : j ∈ vs
  · by_cases hlt : j < σ.length
    · rw [wipe_in hj hlt, wipe_in hj (by omega)]
    · rw [List.getElem?_eq_none (by rw [wipe_length]; omega), List.getElem?_eq_none (by rw [wipe_length]; omega)]
  · rw [wipe_out hj, wipe_out hj]
    exact h j hj
theorem At.weak {e' : Env} {σ' : L2.St} (h : At K C W s σ H) (hl : e'.length = s.env.length) (hl2 : σ'.length = σ.length) (hs : ∀ (j : Nat) (sv : SV), e'[j]? = some (some sv) → s.env[j]? = some (some sv) ∧ σ'[j]? = σ[j]?) : At K C W { s with env := e' } σ' H := by
  refine ⟨h.ok, h.keep, h.pre, h.gro, by rw [hl2, h.len]; exact hl.symm, fun j d e => ?_, fun j xs e => ?_, fun j k xs ys a h1 h2 h3 h4 => ?_⟩
  · obtain ⟨e1, e2⟩ := hs j _ e
    rw [e2]
    exact h.val j d e1
  · obtain ⟨e1, e2⟩ := hs j _ e
    rw [e2]
    exact h.own j xs e1
  · obtain ⟨e1, e2⟩ := hs j _ h1
    obtain ⟨e3, e4⟩ := hs k _ h2
    rw [e2] at h3
    rw [e4] at h4
    exact h.dst j k xs ys a e1 e3 h3 h4
theorem At.wipeS (h : At K C W s σ H) (vs : List Nat) : At K C W { s with env := wip s.env vs } (L2.wipe σ vs) H :=
  h.weak (wip_length _ _) (wipe_length _ _) fun j sv e => ⟨(wip_some e).1, wipe_out (wip_some e).2⟩
theorem At.unwipe {vs : List Nat} (h : At K C W s (wipe σ vs) H) : At K C W { s with env := wip s.env vs } σ H :=
  h.weak (wip_length _ _) (wipe_length _ _).symm fun j sv e => ⟨(wip_some e).1, (wipe_out (wip_some e).2).symm⟩
theorem wip_wip (e : Env) (vs : List Nat) : wip (wip e vs) vs = wip e vs := by
  have hin : ∀ {e : Env} {j : Nat} {vs : List Nat}, j ∈ vs → j < e.length → (wip e vs)[j]? = some none := by
    intro e j vs
    induction vs with
    | nil => intro h; cases h
    | cons v vs ih =>
      intro h hl
      unfold wip
      by_cases hi : v = j
      · subst hi
        exact List.getElem?_set_self (by rw [wip_length]; exact hl)
      · rw [List.getElem?_set_ne hi]
        exact ih ((List.mem_cons.mp h).resolve_left fun e => hi e.symm) hl
  have hout : ∀ {e : Env} {j : Nat} {vs : List Nat}, j ∉ vs → (wip e vs)[j]? = e[j]? := by
    intro e j vs
    induction vs with
    | nil => intro _; rfl
    | cons v vs ih =>
      intro h
      unfold wip
      rw [List.getElem?_set_ne (fun z => h (by rw [z]; exact List.mem_cons_self))]
      exact ih fun m => h (List.mem_cons_of_mem _ m)
  apply List.ext_getElem?
  intro j
  by_cases hj : j ∈ vs
  · by_cases hlt : j < e.length
    · rw [hin hj (by rw [wip_length]; exact hlt), hin hj hlt]
    · rw [List.getElem?_eq_none (by rw [wip_length, wip_length]; omega), List.getElem?_eq_none (by rw [wip_length]; omega)]
  · rw [hout hj]
/-! ### what is walked -/
structure Walks (K : PySem.W.Frag) (J : It) (W : Vw) (xs : List PV) : Prop where
  go : ∀ {C : Ctx} {W' : Vw} {s : S} {σ : L2.St} {H : Hp} {i : Nat}, W.Le W' → At K C W' s σ H → i < xs.length → J.go i H
  yld : ∀ {C : Ctx} {W' : Vw} {s : S} {σ : L2.St} {H H' : Hp} {i : Nat} {x : V}, W.Le W' → At K C W' s σ H → i < xs.length → J.yld i H x H' → ∃ d W'', xs[i]? = some d ∧ W'.Le W'' ∧ At K C W'' s σ H' ∧ Rep K W'' x d
  stop : ∀ {C : Ctx} {W' : Vw} {s : S} {σ : L2.St} {H : Hp} {i : Nat}, W.Le W' → At K C W' s σ H → xs.length ≤ i → J.stop i H
def SrcOk (Y : WX) (wi : TI) (K : PySem.W.Frag) (c : M (List PV)) : Prop := ∀ (σ : L2.St) (H : Hp) (R : It → Hp → Prop), (∃ (C : Ctx) (W : Vw) (s : S), At K (C.wi Y) W s σ H ∧ Pst K (C.wi Y) W σ (c s) (fun xs _ W' H' => ∀ J, Walks K J W' xs → R J H')) → wi σ H R
theorem walks_lst {a : Addr} {vs : List V} {ds : List PV} (h : W.F a = some (.lst vs)) (r : Reps K W vs ds) : Walks K (Itl K a) W ds where
  go := fun {C W' s σ H i} l at' hi => by
    have e := at'.ok.sub _ _ (l.ex _ _ h)
    have hi' : i < vs.length := by rw [r.length]; exact hi
    exact ⟨vs, vs[i], SqL.of e, List.getElem?_eq_getElem hi'⟩
  yld := fun {C W' s σ H H' i x} l at' hi y => by
    obtain ⟨e, y⟩ := y
    subst e
    have e := at'.ok.sub _ _ (l.ex _ _ h)
    have hx := y vs (SqL.of e)
    obtain ⟨d, h1, h2⟩ := r.getV hx
    exact ⟨d, W', h1, Vw.Le.refl _, at', h2.mono l⟩
  stop := fun {C W' s σ H i} l at' hi => ⟨vs, SqL.of (at'.ok.sub _ _ (l.ex _ _ h)), by rw [r.length]; exact hi⟩
theorem walks_tup {a : Addr} {vs : List V} {ds : List PV} (h : SqT K W.F a vs) (r : Reps K W vs ds) : Walks K (Itt K a) W ds where
  go := fun {C W' s σ H i} l at' hi => by
    have e := same_t at'.ok.sub (same_t l.ex h)
    have hi' : i < vs.length := by rw [r.length]; exact hi
    exact ⟨vs, vs[i], e, List.getElem?_eq_getElem hi'⟩
  yld := fun {C W' s σ H H' i x} l at' hi y => by
    obtain ⟨e, y⟩ := y
    subst e
    have e := same_t at'.ok.sub (same_t l.ex h)
    have hx := y vs e
    obtain ⟨d, h1, h2⟩ := r.getV hx
    exact ⟨d, W', h1, Vw.Le.refl _, at', h2.mono l⟩
  stop := fun {C W' s σ H i} l at' hi => ⟨vs, same_t at'.ok.sub (same_t l.ex h), by rw [r.length]; exact hi⟩
theorem walks_rng {lo : Int} {n : Nat} : Walks K (Itr lo n) W ((List.range n).map fun (k : Nat) => PV.int (lo + (k : Int))) where
  go := fun {C W' s σ H i} l at' hi => by show i < n; simpa using hi
  yld := fun {C W' s σ H H' i x} l at' hi y => by
    obtain ⟨e, y⟩ := y
    subst e y
    have hi : i < n := by simpa using hi
    exact ⟨.int (lo + i), W', by simp [hi], Vw.Le.refl _, at', .int _⟩
  stop := fun {C W' s σ H i} l at' hi => by show n ≤ i; simpa using hi
def signsP (x : Str) : List PV := x.cps.toList.map fun c => .str ⟨#[c]⟩
theorem walks_str {x : Str} : Walks K (Its x) W (signsP x) where
  go := fun {C W' s σ H i} l at' hi => by
    show i < x.cps.size
    simpa [signsP] using hi
  yld := fun {C W' s σ H H' i v} l at' hi y => by
    obtain ⟨e, c, hc, ev⟩ := y
    subst e ev
    refine ⟨.str ⟨#[c]⟩, W', ?_, Vw.Le.refl _, at', .str _⟩
    unfold signsP
    rw [List.getElem?_map, Array.getElem?_toList, hc]
    rfl
  stop := fun {C W' s σ H i} l at' hi => by
    show x.cps.size ≤ i
    simpa [signsP] using hi
def itemsP : PV → Option (List PV)
  | .lst xs => some xs
  | .tup xs => some xs
  | .str x => some (signsP x)
  | _ => none
def itemsM (c : M PV) : M (List PV) := bnd c fun d => lft (itemsP d)
def iU (K : PySem.W.Frag) (te : TE) : TI := fun σ H R => (iList K te σ H R ∨ iTup K te σ H R) ∨ iStr te σ H R
theorem pi_u {X : Cx} {tg e : Expr} {te : TE} (h : PE X e te) : PI X tg e (iU X.K te) := ⟨fun pins s σ H R I q => by
  rcases q with (q | q) | q
  · exact (pi_list h).run pins s σ H R I q
  · exact (pi_tup h).run pins s σ H R I q
  · exact (pi_str h).run pins s σ H R I q⟩
theorem src_u : SrcOk Y (iU K (den K Y ca)) K (itemsM ca) := by
  intro σ H R ⟨C, W, s, at', p⟩
  have p := Pst.bnd p
  cases e : ca s with
  | exc _ _ => exact .inl (.inl ⟨C, W, s, at', by rw [e] at p ⊢; exact p⟩)
  | stk => rw [e] at p; exact p.elim
  | ok d s1 =>
    cases d with
    | lst xs =>
      refine .inl (.inl ⟨C, W, s, at', ?_⟩)
      rw [e] at p ⊢
      intro W1 H1 l1 at1 v rv
      have p1 := p W1 H1 l1 at1 W1 H1 (Vw.Le.refl _) at1
      cases rv with
      | lst hx rx => exact ⟨_, rfl, ⟨_, SqL.of (at1.ok.sub _ _ hx)⟩, p1 _ (walks_lst hx rx)⟩
    | tup xs =>
      refine .inl (.inr ⟨C, W, s, at', ?_⟩)
      rw [e] at p ⊢
      intro W1 H1 l1 at1 v rv
      have p1 := p W1 H1 l1 at1 W1 H1 (Vw.Le.refl _) at1
      cases rv with
      | tup hx rx => exact ⟨_, rfl, ⟨_, same_t at1.ok.sub hx⟩, p1 _ (walks_tup hx rx)⟩
    | str x =>
      refine .inr ⟨C, W, s, at', ?_⟩
      rw [e] at p ⊢
      intro W1 H1 l1 at1 v rv
      have p1 := p W1 H1 l1 at1 W1 H1 (Vw.Le.refl _) at1
      cases rv
      exact ⟨_, rfl, p1 _ walks_str⟩
    | _ =>
      refine .inl (.inl ⟨C, W, s, at', ?_⟩)
      rw [e] at p ⊢
      intro W1 H1 l1 at1
      exact (p W1 H1 l1 at1).elim
def rngP : PV → Option (List PV)
  | .int j => if -(2 ^ 62) ≤ j ∧ j < 2 ^ 62 then some ((List.range j.toNat).map fun (k : Nat) => PV.int (0 + (k : Int))) else none
  | _ => none
def rngM (c : M PV) : M (List PV) := bnd c fun d => lft (rngP d)
theorem src_rng : SrcOk Y (iRng1 (tCons (den K Y ca) tNil)) K (rngM ca) := by
  intro σ H R ⟨C, W, s, at', p⟩
  refine ⟨C, W, s, at', (Pst.bnd p).imp fun d s1 W1 H1 l1 at1 p1 v rv => ?_⟩
  obtain ⟨e', he, q⟩ := p1.lft'
  unfold rngP at he
  split at he
  · split at he
    · rename_i hj
      cases he
      cases rv
      exact ⟨_, rfl, hj.1, hj.2, q W1 H1 (Vw.Le.refl _) at1 _ walks_rng⟩
    · cases he
  · cases he
/-! ### [e for x in xs if t] -/
def lcGo (i : Nat) (vs : List Nat) (cond : M Bool) (elt : M PV) : List PV → List PV → M (List PV)
  | [], acc => ret acc
  | x :: r, acc => fun s => match cond { s with env := s.env.set i (some (.val x)) } with
    | .ok true s1 => match elt s1 with
      | .ok y s2 => if acc.length < sizeLine then lcGo i vs cond elt r (acc ++ [y]) { s2 with env := wip s2.env vs } else .stk
      | .exc _ _ => .stk
      | .stk => .stk
    | .ok false s1 => lcGo i vs cond elt r acc { s1 with env := wip s1.env vs }
    | .exc _ _ => .stk
    | .stk => .stk
def lcM (cs : M (List PV)) (i : Nat) (vs : List Nat) (cond : M Bool) (elt : M PV) : M (List PV) := bnd cs fun xs s => lcGo i vs cond elt xs [] { s with env := wip s.env vs }
theorem den_lc {Y' : WX} {wi : TI} {cs : M (List PV)} {vs : List Nat} {cond : M Bool} {elt : M PV} (hw : SrcOk Y wi K cs) (hi : i ∈ vs) (h : denO K Y (lcM cs i vs cond elt) σ H Q) : tLc wi (gName i) (denT K Y' cond) (den K Y' elt) vs σ H Q := by
  obtain ⟨C, W, s, at', p⟩ := h
  refine hw σ H _ ⟨C, W, s, at', (Pst.bnd p).imp fun xs s1 W1 H1 l1 at1 p1 J wk => ?_⟩
  intro D hD
  obtain ⟨hG, hh⟩ := at1.nohs hD
  refine ⟨fun k m H => k ≤ xs.length ∧ m = xs.length - k ∧ ∃ acc accV s2 W2, W1.Le W2 ∧ At K ((C.wi Y).res D (.lst accV)) W2 s2 (wipe σ vs) H ∧ wip s2.env vs = s2.env ∧ Reps K W2 accV acc ∧ Pst K (C.wi Y) W2 σ (lcGo i vs cond elt (xs.drop k) acc s2) (WantL K Q),
    ⟨xs.length, Nat.zero_le _, by simp, [], [], _, W1, Vw.Le.refl _, (at1.resIn hD (.lst [])).wipeS vs, wip_wip _ _, .nil, p1⟩, ?_⟩
  rintro k m H2 ⟨hk, rfl, acc, accV, s2, W2, l2, at2, hw2, ra, p2⟩
  by_cases hlt : k < xs.length
  · refine .inr ⟨wk.go l2 at2 hlt, fun H' => ∃ acc accV s2 W2, W1.Le W2 ∧ At K ((C.wi Y).res D (.lst accV)) W2 s2 (wipe σ vs) H' ∧ wip s2.env vs = s2.env ∧ Reps K W2 accV acc ∧ Pst K (C.wi Y) W2 σ (lcGo i vs cond elt (xs.drop (k + 1)) acc s2) (WantL K Q),
      fun H' q => ⟨xs.length - (k + 1), by omega, hlt, rfl, q⟩, fun x H' y => ?_⟩
    obtain ⟨d, W3, hd, l3, at3, rd⟩ := wk.yld l2 at2 hlt y
    have hdrop : xs.drop k = d :: xs.drop (k + 1) := by
      obtain ⟨h1, h2⟩ := List.getElem?_eq_some_iff.mp hd
      rw [List.drop_eq_getElem_cons h1, h2]
    rw [hdrop] at p2
    have at4 : At K ((C.wi Y).res D (.lst accV)) W3 { s2 with env := s2.env.set i (some (.val d)) } ((wipe σ vs).set i (some x)) H' := at3.set rd i
    have hw' : ∀ {τ : L2.St}, τ = (wipe σ vs).set i (some x) → wipe τ vs = wipe σ vs := by
      intro τ e
      subst e
      apply wipe_ext
      · rw [List.length_set, wipe_length]
      · intro j hj
        rw [List.getElem?_set_ne (fun z => hj (by rw [← z]; exact hi)), wipe_out hj]
    have toWipe : ∀ {C' : Ctx} {W' : Vw} {s' : S} {H' : Hp}, At K C' W' s' ((wipe σ vs).set i (some x)) H' → At K C' W' { s' with env := wip s'.env vs } (wipe σ vs) H' := fun {C' W' s' H'} a =>
      a.weak (wip_length _ _) (by rw [List.length_set]) fun j sv e => ⟨(wip_some e).1, by rw [List.getElem?_set_ne (fun z => (wip_some e).2 (by rw [← z]; exact hi))]⟩
    refine ⟨hw' rfl, C.res D (.lst accV), W3, _, at4.wi Y', ?_⟩
    have p3 : Pst K (C.wi Y) W3 σ (lcGo i vs cond elt (d :: xs.drop (k + 1)) acc s2) (WantL K Q) := p2.up l3
    cases ec : cond { s2 with env := s2.env.set i (some (.val d)) } with
    | exc e s3 =>
      unfold lcGo at p3
      simp only [ec] at p3
      exact p3.elim
    | stk =>
      unfold lcGo at p3
      simp only [ec] at p3
      exact p3.elim
    | ok b s3 =>
      intro W4 H4 l4 at5'
      have at5 : At K ((C.wi Y).res D (.lst accV)) W4 s3 _ H4 := at5'.wi Y
      cases b with
      | false =>
        unfold lcGo at p3
        simp only [ec] at p3
        show ∃ acc accV s2 W2, _
        exact ⟨acc, accV, _, W4, (l2.trans l3).trans l4, toWipe at5, wip_wip _ _, ra.mono (l3.trans l4), p3.up l4⟩
      | true =>
        unfold lcGo at p3
        simp only [ec] at p3
        show den K Y' elt _ H4 _
        refine ⟨C.res D (.lst accV), W4, s3, at5', ?_⟩
        cases ee : elt s3 with
        | exc e s4 => simp only [ee] at p3; exact p3.elim
        | stk => simp only [ee] at p3; exact p3.elim
        | ok y4 s4 =>
          simp only [ee] at p3
          split at p3
          · rename_i hsz
            intro W5 H5 l5 at6' v rv
            have at6 : At K ((C.wi Y).res D (.lst accV)) W5 s4 _ H5 := at6'.wi Y
            have hHD : H5 D = some (.lst accV) := at6.keep D _ upd_same hh
            refine ⟨accV, hHD, by rw [ra.length]; exact hsz, acc ++ [y4], accV ++ [v], _, W5, ((l2.trans l3).trans l4).trans l5, ?_, wip_wip _ _, (ra.mono ((l3.trans l4).trans l5)).append (.cons rv .nil), p3.up (l4.trans l5)⟩
            have at7 := toWipe at6
            obtain ⟨e1, e2, at8⟩ := at7.resOut hG hh
            have at9 := at8.resIn e1 (.lst (accV ++ [v]))
            have e3 : upd (del H5 D) D (.lst (accV ++ [v])) = upd H5 D (.lst (accV ++ [v])) := by
              rw [← e2, upd_upd, e2]
            rw [e3] at at9
            exact at9
          · exact p3.elim
  · have e : k = xs.length := by omega
    subst e
    refine .inl ⟨wk.stop l2 at2 (Nat.le_refl _), ?_⟩
    rw [List.drop_length] at p2
    obtain ⟨e1, e2, at3⟩ := at2.resOut hG hh
    have at4 := at3.unwipe
    rw [hw2] at at4
    have q := p2 W2 _ (Vw.Le.refl _) at4 D accV e1 ra
    rw [e2] at q
    exact q
end
/-! ### statements -/
section
variable {Y : WX} {K : PySem.W.Frag} {C : Ctx} {W W' : Vw} {σ : L2.St} {H : Hp} {s : S} {D : Ends} {i j k : Nat} {ca cb cd : M PV} {ta tb : TS} {fa fb : M Fl}
def skipM : M Fl := ret .nx
theorem den_skip (h : denS K Y skipM D σ H) : tNext D σ H := by
  obtain ⟨C, W, s, at', p⟩ := h
  exact p W σ H (Vw.Le.refl _) at'
def seqM (a b : M Fl) : M Fl := fun s => match a s with
  | .ok .nx s' => b s'
  | .ok fl s' => .ok fl s'
  | .exc e s' => .exc e s'
  | .stk => .stk
theorem den_seq (h : denS K Y (seqM fa fb) D σ H) : tSeq (denS K Y fa) (denS K Y fb) D σ H := by
  obtain ⟨C, W, s, at', p⟩ := h
  refine ⟨C, W, s, at', ?_⟩
  unfold seqM at p
  cases e : fa s with
  | exc _ _ => rw [e] at p; exact p
  | stk => rw [e] at p; exact p.elim
  | ok fl s1 =>
    rw [e] at p
    cases fl with
    | nx => exact fun W1 σ1 H1 l1 at1 => ⟨C, W1, s1, at1, p.up l1⟩
    | rt d => exact fun W1 σ1 H1 l1 at1 => p W1 σ1 H1 l1 at1
    | bk => exact fun W1 σ1 H1 l1 at1 => p W1 σ1 H1 l1 at1
    | ct => exact fun W1 σ1 H1 l1 at1 => p W1 σ1 H1 l1 at1
def ifM (t : M Bool) (a b : M Fl) : M Fl := bnd t fun x => if x = true then a else b
theorem den_if {t : M Bool} (h : denS K Y (ifM t fa fb) D σ H) : tIfS (denT K Y t) (denS K Y fa) (denS K Y fb) D σ H := by
  obtain ⟨C, W, s, at', p⟩ := h
  refine ⟨C, W, s, at', (PstS.bnd p).imp fun x s1 W1 H1 l1 at1 p1 => ?_⟩
  cases x with
  | true => exact ⟨C, W1, s1, at1, p1⟩
  | false => exact ⟨C, W1, s1, at1, p1⟩
def retM (c : M PV) : M Fl := bnd c fun d => ret (.rt d)
theorem den_return (h : denS K Y (retM ca) D σ H) : tRet (den K Y ca) D σ H := by
  obtain ⟨C, W, s, at', p⟩ := h
  exact ⟨C, W, s, at', (PstS.bnd p).imp fun x s1 W1 H1 l1 at1 p1 => p1 W1 σ H1 (Vw.Le.refl _) at1⟩
def dropM (c : M PV) : M Fl := bnd c fun _ => ret .nx
theorem den_drop (h : denS K Y (dropM ca) D σ H) : tDrop (den K Y ca) D σ H := by
  obtain ⟨C, W, s, at', p⟩ := h
  exact ⟨C, W, s, at', (PstS.bnd p).imp fun x s1 W1 H1 l1 at1 p1 v _ => p1 W1 σ H1 (Vw.Le.refl _) at1⟩
def setV (i : Nat) (d : PV) : M Unit := fun s => .ok () { s with env := s.env.set i (some (.val d)) }
def setO (i : Nat) (xs : List PV) : M Unit := fun s => .ok () { s with env := s.env.set i (some (.own xs)) }
def asgM (i : Nat) (c : M PV) : M Fl := bnd c fun d => bnd (setV i d) fun _ => ret .nx
def asgO (i : Nat) (c : M (List PV)) : M Fl := bnd c fun d => bnd (setO i d) fun _ => ret .nx
theorem den_asg (h : denS K Y (asgM i ca) D σ H) : tAsg (den K Y ca) (gName i) D σ H := by
  obtain ⟨C, W, s, at', p⟩ := h
  exact ⟨C, W, s, at', (PstS.bnd p).imp fun x s1 W1 H1 l1 at1 p1 v rv => p1 W1 _ H1 (Vw.Le.refl _) (at1.set rv i)⟩
theorem den_asgO {c : M (List PV)} (h : denS K Y (asgO i c) D σ H) : tAsg (denO K Y c) (gName i) D σ H := by
  obtain ⟨C, W, s, at', p⟩ := h
  exact ⟨C, W, s, at', (PstS.bnd p).imp fun x s1 W1 H1 l1 at1 p1 q vs hq rvs => p1 W1 _ _ (Vw.Le.refl _) (at1.setO hq rvs i)⟩
/-! two, three names at once -/
def par2 (i j : Nat) (ca cb : M PV) : M Fl := bnd ca fun a => bnd cb fun b => bnd (setV i a) fun _ => bnd (setV j b) fun _ => ret .nx
theorem den_par2 (h : denS K Y (par2 i j ca cb) D σ H) : tPar i j (tCons (den K Y ca) (tCons (den K Y cb) tNil)) D σ H := by
  obtain ⟨C, W, s, at', p⟩ := h
  refine ⟨C, W, s, at', (PstS.bnd p).imp fun x s1 W1 H1 l1 at1 p1 v rv => ⟨C, W1, s1, at1, (PstS.bnd p1).imp fun y s2 W2 H2 l2 at2 p2 w rw' => ?_⟩⟩
  exact ⟨v, w, rfl, p2 W2 _ H2 (Vw.Le.refl _) ((at2.set (rv.mono l2) i).set rw' j)⟩
def par2VO (i j : Nat) (ca : M PV) (cb : M (List PV)) : M Fl := bnd ca fun a => bnd cb fun b => bnd (setV i a) fun _ => bnd (setO j b) fun _ => ret .nx
def par3 (i j k : Nat) (ca cb cd : M PV) : M Fl := bnd ca fun a => bnd cb fun b => bnd cd fun d => bnd (setV i a) fun _ => bnd (setV j b) fun _ => bnd (setV k d) fun _ => ret .nx
theorem den_par3 (h : denS K Y (par3 i j k ca cb cd) D σ H) : tPar3 i j k (tCons (den K Y ca) (tCons (den K Y cb) (tCons (den K Y cd) tNil))) D σ H := by
  obtain ⟨C, W, s, at', p⟩ := h
  refine ⟨C, W, s, at', (PstS.bnd p).imp fun x s1 W1 H1 l1 at1 p1 v rv => ⟨C, W1, s1, at1, (PstS.bnd p1).imp fun y s2 W2 H2 l2 at2 p2 w rw' => ⟨C, W2, s2, at2, (PstS.bnd p2).imp fun z s3 W3 H3 l3 at3 p3 u ru => ?_⟩⟩⟩
  exact ⟨v, w, u, rfl, p3 W3 _ H3 (Vw.Le.refl _) (((at3.set (rv.mono (l2.trans l3)) i).set (rw'.mono l3) j).set ru k)⟩
/-! ### for, while -/
def forM (i : Nat) (body : M Fl) : List PV → M Fl
  | [] => ret .nx
  | x :: r => fun s => match body { s with env := s.env.set i (some (.val x)) } with
    | .ok .nx s' => forM i body r s'
    | .ok .ct s' => forM i body r s'
    | .ok .bk s' => .ok .nx s'
    | .ok (.rt d) s' => .ok (.rt d) s'
    | .exc e s' => .exc e s'
    | .stk => .stk
def loopM (cs : M (List PV)) (i : Nat) (body : M Fl) : M Fl := bnd cs fun xs => forM i body xs
theorem den_for {wi : TI} {cs : M (List PV)} (hw : SrcOk Y wi K cs) (h : denS K Y (loopM cs i fa) D σ H) : tFor wi (gName i) (denS K Y fa) D σ H := by
  obtain ⟨C, W, s, at', p⟩ := h
  refine hw σ H _ ⟨C, W, s, at', (PstS.bnd p).imp fun xs s1 W1 H1 l1 at1 p1 J wk => ?_⟩
  refine ⟨fun k m σ H => k ≤ xs.length ∧ m = xs.length - k ∧ ∃ s2 W2, W1.Le W2 ∧ At K (C.wi Y) W2 s2 σ H ∧ PstS K (C.wi Y) W2 D (forM i fa (xs.drop k) s2), ⟨xs.length, Nat.zero_le _, by simp, s1, W1, Vw.Le.refl _, at1, p1⟩, ?_⟩
  rintro k m σ2 H2 ⟨hk, rfl, s2, W2, l2, at2, p2⟩
  by_cases hlt : k < xs.length
  · refine .inr ⟨wk.go l2 at2 hlt, fun σ' H' => ∃ s2 W2, W1.Le W2 ∧ At K (C.wi Y) W2 s2 σ' H' ∧ PstS K (C.wi Y) W2 D (forM i fa (xs.drop (k + 1)) s2), fun σ' H' q => ⟨xs.length - (k + 1), by omega, hlt, rfl, q⟩, fun x H' y => ?_⟩
    obtain ⟨d, W3, hd, l3, at3, rd⟩ := wk.yld l2 at2 hlt y
    have hdrop : xs.drop k = d :: xs.drop (k + 1) := by
      obtain ⟨h1, h2⟩ := List.getElem?_eq_some_iff.mp hd
      rw [List.drop_eq_getElem_cons h1, h2]
    rw [hdrop] at p2
    refine ⟨C, W3, _, at3.set rd i, ?_⟩
    have p3 := p2.up l3
    unfold forM at p3
    cases e : fa { s2 with env := s2.env.set i (some (.val d)) } with
    | exc _ _ => simp only [e] at p3; exact p3
    | stk => simp only [e] at p3; exact p3.elim
    | ok fl s4 =>
      simp only [e] at p3
      cases fl with
      | nx => exact fun W4 σ4 H4 l4 at4 => ⟨s4, W4, (l2.trans l3).trans l4, at4, p3.up l4⟩
      | ct => exact fun W4 σ4 H4 l4 at4 => ⟨s4, W4, (l2.trans l3).trans l4, at4, p3.up l4⟩
      | bk => exact fun W4 σ4 H4 l4 at4 => p3 W4 σ4 H4 l4 at4
      | rt r => exact fun W4 σ4 H4 l4 at4 => p3 W4 σ4 H4 l4 at4
  · have e : k = xs.length := by omega
    subst e
    rw [List.drop_length] at p2
    exact .inl ⟨wk.stop l2 at2 (Nat.le_refl _), p2 W2 σ2 H2 (Vw.Le.refl _) at2⟩
def whM (t : M Bool) (body : M Fl) : Nat → M Fl
  | 0 => stuck
  | n + 1 => bnd t fun x => if x = true then (fun s => match body s with
    | .ok .nx s' => whM t body n s'
    | .ok .ct s' => whM t body n s'
    | .ok .bk s' => .ok .nx s'
    | .ok (.rt d) s' => .ok (.rt d) s'
    | .exc e s' => .exc e s'
    | .stk => .stk) else ret .nx
theorem den_while {t : M Bool} {n : Nat} (h : denS K Y (whM t fa n) D σ H) : tWhile (denT K Y t) (denS K Y fa) D σ H := by
  obtain ⟨C, W, s, at', p⟩ := h
  refine ⟨fun m σ H => ∃ s W, At K (C.wi Y) W s σ H ∧ PstS K (C.wi Y) W D (whM t fa m s), ⟨n, s, W, at', p⟩, ?_⟩
  rintro m σ1 H1 ⟨s1, W1, at1, p1⟩
  cases m with
  | zero => exact p1.elim
  | succ m =>
    refine ⟨C, W1, s1, at1, (PstS.bnd p1).imp fun x s2 W2 H2 l2 at2 p2 => ?_⟩
    cases x with
    | false => exact p2 W2 σ1 H2 (Vw.Le.refl _) at2
    | true =>
      refine ⟨fun σ' H' => ∃ s W, At K (C.wi Y) W s σ' H' ∧ PstS K (C.wi Y) W D (whM t fa m s), fun σ' H' q => ⟨m, Nat.lt_succ_self m, q⟩, C, W2, s2, at2, ?_⟩
      simp only [if_true] at p2
      cases e : fa s2 with
      | exc _ _ => simp only [e] at p2; exact p2
      | stk => simp only [e] at p2; exact p2.elim
      | ok fl s4 =>
        simp only [e] at p2
        cases fl with
        | nx => exact fun W4 σ4 H4 l4 at4 => ⟨s4, W4, at4, p2.up l4⟩
        | ct => exact fun W4 σ4 H4 l4 at4 => ⟨s4, W4, at4, p2.up l4⟩
        | bk => exact fun W4 σ4 H4 l4 at4 => p2 W4 σ4 H4 l4 at4
        | rt r => exact fun W4 σ4 H4 l4 at4 => p2 W4 σ4 H4 l4 at4
end
end Dn
/-! Den5: defs and their calls (with the guards known: repr), the law's end. -/
namespace Dn
open PySem L2 PySem.Spec PyProof.Rows
/-! ### a def's promise, where no list is being shown -/
structure FnG (P : Program) (w : World) (K : PySem.W.Frag) (mg : Str → Option Value) (base : Heap) (CX : CXT) (k : Nat) (f : Addr) (fd : FuncData) (ps : List Str) (sp : Sp) : Prop where
  len : ∀ vs H Q E, sp vs H Q E → vs.length = ps.length
  run : ∀ (A : Around) (outer : List PySem.Env) (s : Shared) (H : Hp) (args : Args) (us : List Value) (vs : List V) (Q : VK) (E : XK), A.guards = some [] → Room k A → Env0 P w K mg base A outer s H → BindsTo s fd args (ps.zip us) → Vals vs us → sp vs H Q E →
    codeAny (model P w) A (.call (.ref f) args) (CR CX outer P w H s Q E) s
theorem FnG.mono {P : Program} {w : World} {K : PySem.W.Frag} {mg : Str → Option Value} {base : Heap} {CX : CXT} {j k : Nat} {f : Addr} {fd : FuncData} {ps : List Str} {sp : Sp} (F : FnG P w K mg base CX j f fd ps sp) (h : j ≤ k) :
    FnG P w K mg base CX k f fd ps sp := ⟨F.len, fun A outer s H args us vs Q E hg hr => F.run A outer s H args us vs Q E hg (hr.mono h)⟩
theorem fn_ofG {CX : CXT} {P : Program} {w : World} {K : PySem.W.Frag} {mg : Str → Option Value} {base : Heap} {k : Nat} {f : Addr} {name qual : Str} {params : Arguments} {body : List Stmt} {scope : Scope} {dV kV doc pm cdv ct oc : Value} {an od : Option Addr}
    {osl : Array (Option Value)} {N ps : List Str} {sp : Sp} (lk : K.lookup f = some ⟨oc, od, .func (PySem.W.fnOf name qual params body scope dV kV doc pm an cdv ct), osl⟩) (hcd : PySem.W.codeIn K cdv qual = true) (S : FnScope N ps scope)
    (len : ∀ vs H Q E, sp vs H Q E → vs.length = ps.length)
    (hbody : ∀ (A : Around) (outer : List PySem.Env) (s : Shared) (H : Hp) (vs : List V) (Q : VK) (E : XK), (A.deeper (envOfC qual scope s.heap.objs.size f cdv)).guards = some [] → Room k (A.deeper (envOfC qual scope s.heap.objs.size f cdv)) → sp vs H Q E →
      ∃ t, PSs (cxOf CX P w K mg base N qual scope f cdv A outer s H E) body t ∧ t { nx := fun _ H' => Q .non H', rt := Q } (L2.start N vs) H) :
    FnG P w K mg base CX (k + 1) f (PySem.W.fnOf name qual params body scope dV kV doc pm an cdv ct) ps sp := by
  refine ⟨len, fun A outer s H args us vs Q E hgd hr e0 hb r hsp => ?_⟩
  have hl := len _ _ _ _ hsp
  have KX : K.In s.heap := e0.mod.kin.keeps fun b o e => (e0.bs b o e).1
  have lim : s.heap.NoLimit := e0.mod.nolimit.keeps fun b o e => (e0.bs b o e).1
  have hkind : ∀ y ∈ ps.zip us, scope.names.lookup y.1 = some .local ∨ (scope.names.lookup y.1 = some .cell ∧ ((cellsFrom (s.heap.objs.size + 1) scope.names []).lookup y.1).isSome = true) := fun ⟨n, v⟩ hy => by
    rcases S.par n (List.of_mem_zip hy).1 with q | q
    · exact .inl q
    · exact .inr ⟨q, PySem.W.cellsFrom_some _ _ _ (.inl q)⟩
  refine codeAny_call_function hr.depth (KX _ _ lk) rfl S.co S.gen rfl (PySem.W.codeRec_of KX hcd) (hb _ _ _ _ ?_)
  refine wpAny_newFunctionEnv_cells S.kind hkind fun env he s1 x => ?_
  subst he
  refine ⟨lim.keeps x.toInCall.keep, codeAny_func ?_⟩
  obtain ⟨t, ht, hq⟩ := hbody A outer s H vs Q E hgd (hr.deeper _) hsp
  have I : Inv (cxOf CX P w K mg base N qual scope f cdv A outer s H E) [] (L2.start N vs) H s1 := inv_start S hr.hd e0 hl r x
  refine wpAny_mono (ht.run [] s1 (L2.start N vs) H _ I hq) (fun fl s' hs => ?_) fun e s' hs => hs
  have fin : ∀ {σ' : L2.St} {H' : Hp} {v : V} {u : Value}, Inv (cxOf CX P w K mg base N qual scope f cdv A outer s H E) [] σ' H' s' → RelV v u → Q v H' → CE outer P w H s Q u s' :=
    fun {σ' H' v u} J rv q => ⟨v, H', J.os, J.bare, J.base, J.hok, rv, q⟩
  cases fl with
  | ret u =>
    obtain ⟨v, σ', H', J, rv, q⟩ := hs
    exact fin J rv q
  | next =>
    obtain ⟨σ', H', J, q⟩ := hs
    exact fin (v := V.non) (u := Value.none) J rfl q
  | brk =>
    obtain ⟨_, _, _, q⟩ := hs
    exact False.elim q
  | cont =>
    obtain ⟨_, _, _, q⟩ := hs
    exact False.elim q
/-! ### calls -/
section
variable {Y : WX} {X : Cx} {CX : CXT} {k : Nat} {f C : Addr} {fd : FuncData} {ps : List Str} {sp : Sp} {E : XK} {x m : Str} {p pos apos : Pos} {e o : Expr} {es : List Expr} {ta : TE} {t : TA}
/-- the def at f, called with what binds to us -/
theorem run_fnG {pins : List (Addr × Obj)} {σ : L2.St} {H : Hp} {s : Shared} {Q : VK} {us zs : List Value} {kw : List (Str × Value)} {vs : List V} (F : FnG X.prog X.w X.K X.mg X.base CX k f fd ps sp) (hgd : X.A.guards = some []) (hr : Room k X.A) (hx : PassesAt CX X σ E)
    (I : Inv X pins σ H s) (hb : BindsTo s fd ⟨us, kw⟩ (ps.zip zs)) (r : Vals vs zs) (h : sp vs H Q E) : wpAny (model X.prog X.w) X.A (call (.ref f) us kw) (EP X pins σ Q) X.xe s := by
  have go := F.run X.A X.stack s H ⟨us, kw⟩ zs vs Q E hgd hr I.env0 hb r h
  refine wpAny_call (codeAny_mono go fun res s' hq => ?_)
  match res, hq with
  | .error e, hq => exact hx pins H s e s' I hq
  | .ok (.ret u), hq => exact I.after hq
  | .ok .next, hq => exact False.elim hq
  | .ok .brk, hq => exact False.elim hq
  | .ok .cont, hq => exact False.elim hq
/-- f(e, ..) -/
theorem pe_callG {E : L2.St → XK} (F : FnG X.prog X.w X.K X.mg X.base CX k f fd ps sp) (hgd : X.A.guards = some []) (hr : Room k X.A) (hg : Gl X x) (hm : X.mg x = some (.ref f)) (hk : PySem.W.keepIn X.K (.ref f) = true) (hb : Binds X.K fd ps []) (hx : ∀ σ, PassesAt CX X σ (E σ))
    (ha : PA X (e :: es) t) (hdb : (x == ("__debug__" : Str)) = false := by decide) (he : starEach (e :: es) X.env = (false, eval e X.env) :: starEach es X.env := by rfl) (hpl : (backTo pos (starEach es X.env)).any (·.1) = false := by rfl) :
    PE X (.Call (.Name x p) (e :: es) [] pos) (tCallS sp E t) := by
  refine ⟨fun pins s σ H Q I h => wpAny_Call_Name_kw (ld_glob I hg hm ?_ hdb)⟩
  have I0 := I.ok.mod.kin
  refine PySem.W.callWith_K (h₀ := X.base) I0 hk (thn (ha.run pos pins s σ H _ I h) ?_) he hpl
  rintro us s1 ⟨vs, H1, I1, r, q⟩
  have hl : (us ++ []).length = ps.length := by rw [List.append_nil, ← r.length]; exact F.len _ _ _ _ q
  have bd := hb s1 us I1.kIn hl
  rw [List.append_nil] at bd
  exact ⟨I1.kIn, run_fnG F hgd hr (hx σ) I1 bd r q⟩
end
/-! ### promises by computations -/
abbrev RR := Res (List MO) PV
abbrev Fn := Nat → List PV → List MO → RR
structure Grow (W W' : Vw) (H H' : Hp) : Prop where
  keep : ∀ a o, H a = some o → a ∉ W.hs → H' a = some o
  gro : ∀ a, H a ≠ none → W'.F a = W.F a ∧ (a ∈ W'.hs → a ∈ W.hs)
def SpPost (K : PySem.W.Frag) (W : Vw) (H : Hp) (Q : VK) (E : XK) : RR → Prop
  | .ok d st' => ∀ v W' H', W.Le W' → Okk K W' st' H' → Grow W W' H H' → Rep K W' v d → Q v H'
  | .exc e st' => ∀ W' H' cls d, W.Le W' → Okk K W' st' H' → Grow W W' H H' → ERep K W' cls d e → E cls d H'
  | .stk => False
def spM (K : PySem.W.Frag) (np : Nat) (m : Fn) : Sp := fun vs H Q E => vs.length = np ∧ ∃ n W st ds, Okk K W st H ∧ Reps K W vs ds ∧ SpPost K W H Q E (m n ds st)
def callM (m : Fn) (n : Nat) (cs : M (List PV)) : M PV := bnd cs fun ds s => match m n ds s.sto with
  | .ok d st' => .ok d { s with sto := st' }
  | .exc e st' => .exc e { s with sto := st' }
  | .stk => .stk
section
variable {Y : WX} {K : PySem.W.Frag} {C : Ctx} {W W' : Vw} {σ : L2.St} {H H' : Hp} {s : S} {Q : VK} {E : XK} {np n : Nat} {m : Fn} {cs : M (List PV)}
theorem At.call {st' : List MO} (h : At K C W s σ H) (l : W.Le W') (ok : Okk K W' st' H') (g : Grow W W' H H') : At K C W' { s with sto := st' } σ H' := by
  have tr : ∀ {a : Addr}, C.G a ≠ none → H a ≠ none := fun {a} ha => by
    cases e : C.G a with
    | none => exact absurd e ha
    | some o =>
      by_cases hm : a ∈ C.hs0
      · obtain ⟨i, hi⟩ := List.getElem?_of_mem hm
        exact h.ok.some (h.pre i a hi)
      · rw [h.keep a o e hm]
        exact fun z => nomatch z
  refine ⟨ok, fun a o e ha => ?_, fun i a e => l.pre i a (h.pre i a e), fun a ha => ?_, h.len, fun i d e => ?_, fun i xs e => ?_, h.dst⟩
  · refine g.keep a o (h.keep a o e ha) fun hm => ha ?_
    exact (h.gro a (by rw [e]; exact fun z => nomatch z)).2 hm
  · obtain ⟨g1, g2⟩ := g.gro a (tr ha)
    obtain ⟨k1, k2⟩ := h.gro a ha
    exact ⟨g1.trans k1, fun z => k2 (g2 z)⟩
  · obtain ⟨v, e1, r⟩ := h.val i d e
    exact ⟨v, e1, r.mono l⟩
  · obtain ⟨a, vs, e1, ow, e2, r⟩ := h.own i xs e
    obtain ⟨g1, g2⟩ := g.gro a (by rw [e2]; exact fun z => nomatch z)
    exact ⟨a, vs, e1, ⟨g1.trans ow.f, fun z => ow.h (g2 z), ow.g⟩, g.keep a _ e2 ow.h, r.mono l⟩
theorem den_call (hl : ∀ ds st, m n ds st ≠ .stk → ds.length = np) (h : den K Y (callM m n cs) σ H Q) : tCallS (spM K np m) (WE Y) (denA K Y cs) σ H Q := by
  obtain ⟨C, W, s, at', p⟩ := h
  refine ⟨C, W, s, at', (Pst.bnd p).imp fun ds s1 W1 H1 l1 at1 p1 vs rvs => ?_⟩
  show spM K np m vs H1 Q (WE Y σ)
  have len : ∀ {r : RR}, m n ds s1.sto = r → r ≠ .stk → vs.length = np := fun {r} e z => by rw [rvs.length]; exact hl _ _ (by rw [e]; exact z)
  cases e : m n ds s1.sto with
  | exc x st' =>
    simp only [e] at p1
    refine ⟨len e (fun z => nomatch z), n, W1, s1.sto, ds, at1.ok, rvs, ?_⟩
    rw [e]
    exact fun W' H' cls d l ok g r => p1 W' σ H' cls d l (at1.call l ok g) r
  | stk => simp only [e] at p1; exact p1.elim
  | ok d st' =>
    simp only [e] at p1
    refine ⟨len e (fun z => nomatch z), n, W1, s1.sto, ds, at1.ok, rvs, ?_⟩
    rw [e]
    exact fun v W' H' l ok g r => p1 W' H' l (at1.call l ok g) v r
/-- a def's answer from its body's -/
def fnM (np nn : Nat) (body : Nat → M Fl) : Fn := fun n ds st => if ds.length = np then (match body n ⟨ds.map (fun d => some (SV.val d)) ++ List.replicate (nn - np) none, st⟩ with
  | .ok (.rt d) s' => .ok d s'.sto
  | .ok .nx s' => .ok .non s'.sto
  | .ok .bk _ => .stk
  | .ok .ct _ => .stk
  | .exc e s' => .exc e s'.sto
  | .stk => .stk) else .stk
theorem fnM_len {nn : Nat} {body : Nat → M Fl} {ds : List PV} {st : List MO} (h : fnM np nn body n ds st ≠ .stk) : ds.length = np := by
  unfold fnM at h
  split at h
  · assumption
  · exact absurd rfl h
end
/-- a def's wish about exceptions, in its body -/
abbrev yE (E : XK) : WX := fun cls d _ H => E cls d H
/-- a body's start -/
theorem start_den {K : PySem.W.Frag} {N ps : List Str} {body : Nat → M Fl} {vs : List V} {H : Hp} {Q : VK} {E : XK} (hN : ps.length ≤ N.length) (hsp : spM K ps.length (fnM ps.length N.length body) vs H Q E) :
    ∃ n, denS K (yE E) (body n) { nx := fun _ H' => Q .non H', rt := Q } (L2.start N vs) H := by
  obtain ⟨hl, n, W, sto, ds, ok, rv, post⟩ := hsp
  have hds : ds.length = ps.length := by rw [← rv.length]; exact hl
  refine ⟨n, ⟨H, W.F, W.hs, yE E⟩, W, ⟨ds.map (fun d => some (SV.val d)) ++ List.replicate (N.length - ps.length) none, sto⟩, ?_, ?_⟩
  · refine ⟨ok, fun a o e _ => e, fun i a e => e, fun a _ => ⟨rfl, fun z => z⟩, ?_, fun i d e => ?_, fun i xs e => ?_, fun i j xs ys a h1 _ _ _ => ?_⟩
    · unfold L2.start
      rw [List.length_append, List.length_append, List.length_map, List.length_map, List.length_replicate, List.length_replicate, hl, hds]
    · have e : (ds.map (fun d => some (SV.val d)) ++ List.replicate (N.length - ps.length) none)[i]? = some (some (.val d)) := e
      by_cases hi : i < ds.length
      · rw [List.getElem?_append_left (by rw [List.length_map]; exact hi), List.getElem?_map] at e
        obtain ⟨d', hd', e2⟩ := Option.map_eq_some_iff.mp e
        cases e2
        obtain ⟨v, hv, r⟩ := rv.get hd'
        refine ⟨v, ?_, r⟩
        unfold L2.start
        rw [List.getElem?_append_left (by rw [List.length_map, hl, ← hds]; exact hi), List.getElem?_map, hv]
        rfl
      · rw [List.getElem?_append_right (by rw [List.length_map]; omega), List.getElem?_replicate] at e
        split at e <;> cases e
    · have e : (ds.map (fun d => some (SV.val d)) ++ List.replicate (N.length - ps.length) none)[i]? = some (some (.own xs)) := e
      by_cases hi : i < ds.length
      · rw [List.getElem?_append_left (by rw [List.length_map]; exact hi), List.getElem?_map] at e
        obtain ⟨d', hd', e2⟩ := Option.map_eq_some_iff.mp e
        cases e2
      · rw [List.getElem?_append_right (by rw [List.length_map]; omega), List.getElem?_replicate] at e
        split at e <;> cases e
    · have e : (ds.map (fun d => some (SV.val d)) ++ List.replicate (N.length - ps.length) none)[i]? = some (some (.own xs)) := h1
      by_cases hi : i < ds.length
      · rw [List.getElem?_append_left (by rw [List.length_map]; exact hi), List.getElem?_map] at e
        obtain ⟨d', hd', e2⟩ := Option.map_eq_some_iff.mp e
        cases e2
      · rw [List.getElem?_append_right (by rw [List.length_map]; omega), List.getElem?_replicate] at e
        split at e <;> cases e
  · unfold fnM at post
    rw [if_pos hds] at post
    cases e : body n ⟨ds.map (fun d => some (SV.val d)) ++ List.replicate (N.length - ps.length) none, sto⟩ with
    | exc x s' =>
      simp only [e] at post
      exact fun W' σ' H' cls d l a r => post W' H' cls d l a.ok ⟨fun b o e hb => a.keep b o e hb, fun b hb => a.gro b hb⟩ r
    | stk => simp only [e] at post; exact post.elim
    | ok fl s' =>
      simp only [e] at post
      have gr : ∀ {W' : Vw} {σ' : L2.St} {H' : Hp}, At K ⟨H, W.F, W.hs, yE E⟩ W' s' σ' H' → Grow W W' H H' := fun a => ⟨fun b o e hb => a.keep b o e hb, fun b hb => a.gro b hb⟩
      cases fl with
      | nx => exact fun W' σ' H' l a => post .non W' H' l a.ok (gr a) .non
      | rt d => exact fun W' σ' H' l a v rv => post v W' H' l a.ok (gr a) rv
      | bk => exact post.elim
      | ct => exact post.elim
/-- THE RULE: a def keeps the promise of its computation -/
theorem fn_den {P : Program} {w : World} {K : PySem.W.Frag} {mg : Str → Option Value} {base : Heap} {k : Nat} {f : Addr} {fd : FuncData} {x qual : Str} {st : Stmt} {N ps : List Str} {body : Nat → M Fl}
    (F : Fun K x qual st f fd) (S : FnScope N ps (defScope st)) (hN : ps.length ≤ N.length)
    (hbody : ∀ (cdv : Value) (A : Around) (outer : List PySem.Env) (s : Shared) (H : Hp) (E : XK) (n : Nat), (A.deeper (envOfC qual (defScope st) s.heap.objs.size f cdv)).guards = some [] → Room k (A.deeper (envOfC qual (defScope st) s.heap.objs.size f cdv)) →
      Takes (cxOf (L2.CX P w) P w K mg base N qual (defScope st) f cdv A outer s H E) (yE E) →
      PSs (cxOf (L2.CX P w) P w K mg base N qual (defScope st) f cdv A outer s H E) (defBody st) (denS K (yE E) (body n))) :
    FnG P w K mg base (L2.CX P w) (k + 1) f fd ps (spM K ps.length (fnM ps.length N.length body)) := by
  obtain ⟨oc, od, kV, doc, pm, an, cdv, ct, osl, rfl, lk, hcd⟩ := F.ex
  refine fn_ofG lk hcd S (fun vs H Q E h => h.1) fun A outer s H vs Q E hgd hr hsp => ?_
  obtain ⟨n, h⟩ := start_den hN hsp
  exact ⟨_, hbody cdv A outer s H E n hgd hr (takes_of rfl rfl rfl rfl), h⟩
/-! ### repr -/
end Dn
/-! Den6: sorted. -/
namespace Dn
open PySem L2 PySem.Spec PyProof.Rows
/-! ### texts in order -/
/-! ### a tuple collected -/
/-! ### by a key: stable -/
/-! ### sorted(xs, key=len), the items tuples -/
end Dn
/-! Den7: the rules in short, one for each form of Python. -/
namespace Dn
open PySem L2 PySem.Spec PyProof.Rows
theorem bo_len : bootBuiltins "len" = some (.builtin "len") := by decide +kernel
theorem bo_abs : bootBuiltins "abs" = some (.builtin "abs") := by decide +kernel
theorem bo_all : bootBuiltins "all" = some (.builtin "all") := by decide +kernel
theorem bo_int : bootBuiltins "int" = some (.type "int") := by decide +kernel
theorem bo_list : bootBuiltins "list" = some (.type "list") := by decide +kernel
section
variable {Y : WX} {X : Cx} {a b c e o : Expr} {es : List Expr} {ca cb cd ce : M PV} {ta tb tc : M Bool} {pos p px : Pos} {i j k : Nat}
/-! ### names, constants -/
theorem xv (i : Nat) {x : Str} {pos : Pos} (hN : X.N[i]? = some x := by rfl) (hv : Vis X.env.scope x := by first | exact Or.inl rfl | exact Or.inr (Or.inl rfl) | exact Or.inr (Or.inr rfl)) (hd : (x == ("__debug__" : Str)) = false := by decide)
    (hcd : (x == ("__classdict__" : Str)) = false := by decide) : PE X (.Name x pos) (den X.K Y (var i)) := pe_imp (pe_var hN hv hd hcd) fun _ _ _ => den_var
theorem xint {n : Int} {j pos} : PE X (.Constant (.int n) j pos) (den X.K Y (ret (.int n))) := pe_imp pe_int fun _ _ _ h => den_ret h fun _ => .int n
theorem xstr {x : Str} {j pos} : PE X (.Constant (.str x) j pos) (den X.K Y (ret (.str x))) := pe_imp pe_str fun _ _ _ h => den_ret h fun _ => .str x
theorem xbl {b : Bool} {j pos} : PE X (.Constant (.bool b) j pos) (den X.K Y (ret (.bl b))) := pe_imp pe_bl fun _ _ _ h => den_ret h fun _ => .bl b
theorem xnon {j pos} : PE X (.Constant .none j pos) (den X.K Y (ret .non)) := pe_imp pe_non fun _ _ _ h => den_ret h fun _ => .non
/-! ### operators -/
abbrev opAdd (a b : PV) : M PV := lft (addP a b)
abbrev opSub (a b : PV) : M PV := lft (subP a b)
abbrev opMul (a b : PV) : M PV := lft (mulP a b)
abbrev opDiv (a b : PV) : M PV := lft (fdivP a b)
abbrev opMod (a b : PV) : M PV := lft (modP a b)
abbrev opPow (a b : PV) : M PV := lft (powP a b)
theorem xadd (ha : PE X a (den X.K Y ca)) (hb : PE X b (den X.K Y cb)) : PE X (.BinOp a .Add b pos) (den X.K Y (bin ca cb opAdd)) := pe_imp (pe_op op_addU ha hb) fun _ _ _ => den_bin bin_add
theorem xsub (ha : PE X a (den X.K Y ca)) (hb : PE X b (den X.K Y cb)) : PE X (.BinOp a .Sub b pos) (den X.K Y (bin ca cb opSub)) := pe_imp (pe_op op_sub ha hb) fun _ _ _ => den_bin bin_sub
theorem xmul (ha : PE X a (den X.K Y ca)) (hb : PE X b (den X.K Y cb)) : PE X (.BinOp a .Mult b pos) (den X.K Y (bin ca cb opMul)) := pe_imp (pe_op (op_or2 op_mulW op_rep) ha hb) fun _ _ _ => den_bin bin_mul
theorem xfdiv (ha : PE X a (den X.K Y ca)) (hb : PE X b (den X.K Y cb)) : PE X (.BinOp a .FloorDiv b pos) (den X.K Y (bin ca cb opDiv)) := pe_imp (pe_op op_fdivW ha hb) fun _ _ _ => den_bin bin_fdiv
theorem xmod (ha : PE X a (den X.K Y ca)) (hb : PE X b (den X.K Y cb)) : PE X (.BinOp a .Mod b pos) (den X.K Y (bin ca cb opMod)) := pe_imp (pe_op op_mod ha hb) fun _ _ _ => den_bin bin_mod
theorem xpow (ha : PE X a (den X.K Y ca)) (hb : PE X b (den X.K Y cb)) : PE X (.BinOp a .Pow b pos) (den X.K Y (bin ca cb opPow)) := pe_imp (pe_op op_pow ha hb) fun _ _ _ => den_bin bin_pow
/-! ### comparisons: by the rule of the operator -/
structure CmpOk (X : Cx) (op : CmpOp) (f : PV → PV → M PV) : Prop where
  ok : ∃ r, OpR X (compareOp op) r ∧ Bin r X.K f
abbrev opLt (a b : PV) : M PV := lft (ordP (fun i j => decide (i < j)) a b)
abbrev opLe (a b : PV) : M PV := lft (ordP (fun i j => decide (i ≤ j)) a b)
abbrev opGt (a b : PV) : M PV := lft (ordP (fun i j => decide (j < i)) a b)
abbrev opGe (a b : PV) : M PV := lft (ordP (fun i j => decide (j ≤ i)) a b)
abbrev opEq (a b : PV) : M PV := lft (eqP false a b)
abbrev opNe (a b : PV) : M PV := lft (eqP true a b)
abbrev opIn (a b : PV) : M PV := lft (inP false a b)
theorem k_lt : CmpOk X .Lt opLt := ⟨_, op_lt, bin_ord⟩
theorem k_le : CmpOk X .LtE opLe := ⟨_, op_le, bin_ord⟩
theorem k_gt : CmpOk X .Gt opGt := ⟨_, op_gt, bin_ord⟩
theorem k_ge : CmpOk X .GtE opGe := ⟨_, op_ge, bin_ord⟩
theorem k_eq (hu : X.A.units + 128 < cLine) : CmpOk X .Eq opEq := ⟨_, op_or2 op_eq (op_eqD (by omega)), bin_eq⟩
theorem k_ne (hu : X.A.units + 128 < cLine) : CmpOk X .NotEq opNe := ⟨_, op_or2 op_ne (op_neD (by omega)), bin_ne⟩
theorem k_in (hu : X.A.units + 128 < cLine) : CmpOk X .In opIn := ⟨_, op_or2 (op_or2 op_in_seq (op_inD (by omega))) op_in_sign, bin_in⟩
theorem xcmp {op : CmpOp} {f : PV → PV → M PV} (h : CmpOk X op f) (ha : PE X a (den X.K Y ca)) (hb : PE X b (den X.K Y cb)) (hm : behindInMarks op b = false := by first | exact nomark _ | rfl) : PE X (.Compare a [op] [b] pos) (den X.K Y (bin ca cb f)) := by
  obtain ⟨r, h1, h2⟩ := h.ok
  exact pe_imp (pe_cmpR h1 ha hb hm) fun _ _ _ => den_bin h2
theorem xisN (ha : PE X a (den X.K Y ca)) {j p2} : PE X (.Compare a [.Is] [.Constant .none j p2] pos) (den X.K Y (isN false ca)) := pe_imp (pe_cmp (pc_isN ha) rfl) fun _ _ _ => den_isN
theorem xnotN (ha : PE X a (den X.K Y ca)) {j p2} : PE X (.Compare a [.IsNot] [.Constant .none j p2] pos) (den X.K Y (isN true ca)) := pe_imp (pe_cmp (pc_notN ha) rfl) fun _ _ _ => den_notN
/-! ### tests -/
theorem tcmp {op : CmpOp} {f : PV → PV → M PV} (h : CmpOk X op f) (ha : PE X a (den X.K Y ca)) (hb : PE X b (den X.K Y cb)) (hm : behindInMarks op b = false := by first | exact nomark _ | rfl) : PT X (.Compare a [op] [b] pos) (denT X.K Y (asB (bin ca cb f))) := by
  obtain ⟨r, h1, h2⟩ := h.ok
  exact pt_imp (pt_cmpR h1 ha hb hm) fun _ _ _ q => den_bin h2 (den_asB q)
theorem tisN (ha : PE X a (den X.K Y ca)) {j p2} : PT X (.Compare a [.Is] [.Constant .none j p2] pos) (denT X.K Y (asB (isN false ca))) := pt_imp (pt_cmp (pc_isN ha) rfl) fun _ _ _ q => den_isN (den_asB q)
theorem tnotN (ha : PE X a (den X.K Y ca)) {j p2} : PT X (.Compare a [.IsNot] [.Constant .none j p2] pos) (denT X.K Y (asB (isN true ca))) := pt_imp (pt_cmp (pc_notN ha) rfl) fun _ _ _ q => den_notN (den_asB q)
theorem tval (ha : PE X a (den X.K Y ca)) (he : ∀ whole, isTrue a X.env whole = (do let v ← whole; standAt a.pos; holding [v] (truthy v)) := by intro _; rfl) : PT X a (denT X.K Y (asB ca)) := pt_imp (pt_val ha he) fun _ _ _ q => den_asB q
theorem wand (ha : PT X a (denT X.K Y ta)) (hb : PW X (.BoolOp .And (b :: es) pos) (denT X.K Y tb)) : PW X (.BoolOp .And (a :: b :: es) pos) (denT X.K Y (andT ta tb)) := pw_imp (pw_and ha hb) fun _ _ _ => den_and
theorem wor (ha : PT X a (denT X.K Y ta)) (hb : PW X (.BoolOp .Or (b :: es) pos) (denT X.K Y tb)) : PW X (.BoolOp .Or (a :: b :: es) pos) (denT X.K Y (orT ta tb)) := pw_imp (pw_or ha hb) fun _ _ _ => den_or
theorem tnot (ha : PT X a (denT X.K Y ta)) : PT X (.UnaryOp .Not a pos) (denT X.K Y (notT ta)) := pt_imp (pt_not ha) fun _ _ _ => den_not
theorem xand (ha : PE X a (den X.K Y ca)) (hb : PE X (.BoolOp .And (b :: es) pos) (den X.K Y cb)) : PE X (.BoolOp .And (a :: b :: es) pos) (den X.K Y (andV ca cb)) := pe_imp (pe_and ha hb) fun _ _ _ => den_andV
theorem xnot (ha : PE X a (den X.K Y ca)) : PE X (.UnaryOp .Not a pos) (den X.K Y (notV ca)) := pe_imp (pe_not ha) fun _ _ _ => den_notV
theorem xif (hc : PT X c (denT X.K Y tc)) (ha : PE X a (den X.K Y ca)) (hb : PE X b (den X.K Y cb)) : PE X (.IfExp c a b pos) (den X.K Y (iteT tc ca cb)) := pe_imp (pe_ifExp hc ha hb) fun _ _ _ => den_ite
/-! ### arguments, displays -/
theorem anil : PA X [] (denA X.K Y argN) := pa_imp pa_nil fun _ _ _ => den_argN
theorem acons {r : M (List PV)} (ha : PE X e (den X.K Y ce)) (hr : PA X es (denA X.K Y r)) (hs : starEach (e :: es) X.env = (false, eval e X.env) :: starEach es X.env := by rfl) : PA X (e :: es) (denA X.K Y (argC ce r)) := pa_imp (pa_cons ha hr hs) fun _ _ _ => den_argC
theorem xtup {cs : M (List PV)} {n} (h : PA X es (denA X.K Y cs)) : PE X (.Tuple es n pos) (den X.K Y (tupM cs)) := pe_imp (pe_tup h) fun _ _ _ => den_tup
theorem olst {cs : M (List PV)} (h : PA X es (denA X.K Y cs)) : PE X (.List es pos) (denO X.K Y (fits cs)) := pe_imp (pe_lst h) fun _ _ _ => denO_lst
/-- a new list, frozen at once -/
theorem xo {cs : M (List PV)} (h : PE X e (denO X.K Y cs)) : PE X e (den X.K Y (lstM cs)) := pe_imp h fun _ _ _ => denO_den
/-! ### subscripts, slices -/
abbrev opIx (a b : PV) : M PV := lft (ixP a b)
theorem xix (ha : PE X a (den X.K Y ca)) (hb : PE X b (den X.K Y cb)) (hs : PlainIx b := by intro _ _; rfl) : PE X (.Subscript a b pos) (den X.K Y (bin ca cb opIx)) := pe_imp (pe_ix ix_seq ha hb hs) fun _ _ _ => den_bin bin_ix
theorem qN : PO X none (denP X.K Y parN) := ⟨fun pins s σ H Q I h => po_none.run pins s σ H Q I (den_parN h)⟩
theorem qS (h : PE X e (den X.K Y ce)) : PO X (some e) (denP X.K Y (parS ce)) := ⟨fun pins s σ H Q I q => (po_some h).run pins s σ H Q I (den_parS q)⟩
theorem xsl {lo hi : Option Expr} {cl ch : M (Option Int)} {p2} (h : PE X e (den X.K Y ce)) (hl : PO X lo (denP X.K Y cl)) (hh : PO X hi (denP X.K Y ch)) : PE X (.Subscript e (.Slice lo hi none p2) pos) (den X.K Y (slM ce cl ch)) := pe_imp (pe_slice sl_u h hl hh) fun _ _ _ => den_sl
theorem xhget (hu : X.A.units + 128 < cLine) (ha : PE X a (den X.K Y ca)) (hb : PE X b (den X.K Y cb)) (hs : NoSl b := by intro _ _; rfl) : PE X (.Subscript a b pos) (den X.K Y (bin ca cb hgetP)) := pe_imp (pe_dget (by omega) ha hb hs) fun _ _ _ => den_hget
/-! ### built-ins -/
theorem xb {id : String} {x : Str} {r : List V → Hp → VK → Prop} {f : PV → M PV} (hc : CallR X (.builtin id) r) (hf : Fn1 r X.K f) (hv : bootBuiltins x = some (.builtin id)) (hm : X.mg x = none) (ha : PE X e (den X.K Y ce)) (hg : Gl X x := by rfl) (hn : x ≠ "__name__" := by decide) (hdb : (x == ("__debug__" : Str)) = false := by decide)
    (he : starEach [e] X.env = (false, eval e X.env) :: starEach [] X.env := by rfl) (hpl : (backTo pos (starEach [] X.env)).any (·.1) = false := by rfl) : PE X (.Call (.Name x p) [e] [] pos) (den X.K Y (bnd ce f)) :=
  pe_imp (pe_callB hc hg hm hv (pa_cons ha pa_nil he) hn hdb he hpl) fun _ _ _ => den_fn1 hf
theorem xt {T : String} {x : Str} {r : List V → Hp → VK → Prop} {f : PV → M PV} (hc : CallR X (.type T) r) (hf : Fn1 r X.K f) (hv : bootBuiltins x = some (.type T)) (hm : X.mg x = none) (ha : PE X e (den X.K Y ce)) (hg : Gl X x := by rfl) (hn : x ≠ "__name__" := by decide) (hdb : (x == ("__debug__" : Str)) = false := by decide)
    (he : starEach [e] X.env = (false, eval e X.env) :: starEach [] X.env := by rfl) (hpl : (backTo pos (starEach [] X.env)).any (·.1) = false := by rfl) : PE X (.Call (.Name x p) [e] [] pos) (den X.K Y (bnd ce f)) :=
  pe_imp (pe_callTy hc hg hm hv (pa_cons ha pa_nil he) hn hdb he hpl) fun _ _ _ => den_fn1 hf
theorem ob {id : String} {x : Str} {r : List V → Hp → VK → Prop} {f : PV → M (List PV)} (hc : CallR X (.builtin id) r) (hf : Fn1O r X.K f) (hv : bootBuiltins x = some (.builtin id)) (hm : X.mg x = none) (ha : PE X e (den X.K Y ce)) (hg : Gl X x := by rfl) (hn : x ≠ "__name__" := by decide) (hdb : (x == ("__debug__" : Str)) = false := by decide)
    (he : starEach [e] X.env = (false, eval e X.env) :: starEach [] X.env := by rfl) (hpl : (backTo pos (starEach [] X.env)).any (·.1) = false := by rfl) : PE X (.Call (.Name x p) [e] [] pos) (denO X.K Y (bnd ce f)) :=
  pe_imp (pe_callB hc hg hm hv (pa_cons ha pa_nil he) hn hdb he hpl) fun _ _ _ => denO_fn1 hf
theorem ot {T : String} {x : Str} {r : List V → Hp → VK → Prop} {f : PV → M (List PV)} (hc : CallR X (.type T) r) (hf : Fn1O r X.K f) (hv : bootBuiltins x = some (.type T)) (hm : X.mg x = none) (ha : PE X e (den X.K Y ce)) (hg : Gl X x := by rfl) (hn : x ≠ "__name__" := by decide) (hdb : (x == ("__debug__" : Str)) = false := by decide)
    (he : starEach [e] X.env = (false, eval e X.env) :: starEach [] X.env := by rfl) (hpl : (backTo pos (starEach [] X.env)).any (·.1) = false := by rfl) : PE X (.Call (.Name x p) [e] [] pos) (denO X.K Y (bnd ce f)) :=
  pe_imp (pe_callTy hc hg hm hv (pa_cons ha pa_nil he) hn hdb he hpl) fun _ _ _ => denO_fn1 hf
abbrev fLen (a : PV) : M PV := lft (lenP a)
abbrev fAbs (a : PV) : M PV := lft (absP a)
abbrev fInt (a : PV) : M PV := lft (intP a)
abbrev fAll (a : PV) : M PV := lft (allP a)
abbrev fTuple (a : PV) : M PV := lft (tupleP a)
abbrev fList (a : PV) : M (List PV) := lft (listP a)
theorem xlen (hm : X.mg "len" = none) (ha : PE X e (den X.K Y ce)) (hg : Gl X "len" := by rfl) (he : starEach [e] X.env = (false, eval e X.env) :: starEach [] X.env := by rfl) : PE X (.Call (.Name "len" p) [e] [] pos) (den X.K Y (bnd ce fLen)) := xb call_len fn_len bo_len hm ha hg (he := he)
theorem xabs (hm : X.mg "abs" = none) (ha : PE X e (den X.K Y ce)) (hg : Gl X "abs" := by rfl) (he : starEach [e] X.env = (false, eval e X.env) :: starEach [] X.env := by rfl) : PE X (.Call (.Name "abs" p) [e] [] pos) (den X.K Y (bnd ce fAbs)) := xb call_abs fn_abs bo_abs hm ha hg (he := he)
theorem xall (hc : X.calm = true) (hm : X.mg "all" = none) (ha : PE X e (den X.K Y ce)) (hg : Gl X "all" := by rfl) (he : starEach [e] X.env = (false, eval e X.env) :: starEach [] X.env := by rfl) : PE X (.Call (.Name "all" p) [e] [] pos) (den X.K Y (bnd ce fAll)) := xb (cr_all hc) fn_all bo_all hm ha hg (he := he)
theorem xtoint (hm : X.mg "int" = none) (ha : PE X e (den X.K Y ce)) (hg : Gl X "int" := by rfl) (he : starEach [e] X.env = (false, eval e X.env) :: starEach [] X.env := by rfl) : PE X (.Call (.Name "int" p) [e] [] pos) (den X.K Y (bnd ce fInt)) := xt call_int1 fn_int bo_int hm ha hg (he := he)
theorem olist (hm : X.mg "list" = none) (ha : PE X e (den X.K Y ce)) (hg : Gl X "list" := by rfl) (he : starEach [e] X.env = (false, eval e X.env) :: starEach [] X.env := by rfl) : PE X (.Call (.Name "list" p) [e] [] pos) (denO X.K Y (bnd ce fList)) := ot call_list_of fn_list bo_list hm ha hg (he := he)
/-! ### methods -/
theorem xjoin {apos : Pos} (ha : PE X o (den X.K Y ca)) (hb : PE X e (den X.K Y cb)) (hbase : attributeBase o "join" X.env (eval o X.env) = eval o X.env := by rfl) (hline : (apos.endLine == pos.line) = true := by rfl)
    (hs : starEach [e] X.env = [(false, eval e X.env)] := by rfl) :
    PE X (.Call (.Attribute o "join" apos) [e] [] pos) (den X.K Y (joinM ca cb)) := pe_imp (pe_join ha hb hs hbase hline) fun _ _ _ => den_join
end
end Dn
/-! Den8: statements, comprehensions, calls, in short. -/
namespace Dn
open PySem L2 PySem.Spec PyProof.Rows
/-- no exception is wanted -/
abbrev yF : WX := fun _ _ _ _ => False
section
variable {Y : WX} {X : Cx} {a b c e o : Expr} {es : List Expr} {ca cb cd ce : M PV} {ta tb tc : M Bool} {fa fb fc : M Fl} {pos p px : Pos} {i j k : Nat} {st : Stmt} {rest sa sb : List Stmt}
/-! ### blocks -/
theorem bnil : PSs X [] (denS X.K Y skipM) := pss_imp pss_nil fun _ _ _ => den_skip
theorem bone (h : PS X st (denS X.K Y fa)) : PSs X [st] (denS X.K Y fa) := pss_one h
theorem bcons (h : PS X st (denS X.K Y fa)) (r : PSs X rest (denS X.K Y fb)) : PSs X (st :: rest) (denS X.K Y (seqM fa fb)) := pss_imp (pss_cons h r) fun _ _ _ => den_seq
theorem sret (h : PE X e (den X.K Y ce)) : PS X (.Return (some e) pos) (denS X.K Y (retM ce)) := ps_imp (ps_ret h) fun _ _ _ => den_return
theorem sexpr (h : PE X e (den X.K Y ce)) (hs : swapsWith e none pos.line X.env = pure false := by rfl) : PS X (.Expr e pos) (denS X.K Y (dropM ce)) := ps_imp (ps_expr h hs) fun _ _ _ => den_drop
theorem sif (hc : PT X c (denT X.K Y tc)) (ha : PSs X sa (denS X.K Y fa)) (hb : PSs X sb (denS X.K Y fb)) : PS X (.If c sa sb pos) (denS X.K Y (ifM tc fa fb)) := ps_imp (ps_if hc ha hb) fun _ _ _ => den_if
/-! ### stores -/
theorem sset (i : Nat) {x : Str} (nd : X.N.Nodup) (he : PE X e (den X.K Y ce)) (hi : X.N[i]? = some x := by rfl) (hx : Loc X.env.scope x := by first | exact Or.inl rfl | exact Or.inr rfl) (hs : swapsWith e (some (.Name x px)) pos.line X.env = pure false := by rfl)
    (hf : X.fn x = true ∨ X.env.scope.names.lookup x = some .local := by first | exact .inl rfl | exact .inr rfl | assumption) : PS X (.Assign [.Name x px] e pos) (denS X.K Y (asgM i ce)) := ps_imp (ps_set nd hi hx he hs hf) fun _ _ _ => den_asg
theorem sown (i : Nat) {x : Str} {cs : M (List PV)} (nd : X.N.Nodup) (he : PE X e (denO X.K Y cs)) (hi : X.N[i]? = some x := by rfl) (hx : Loc X.env.scope x := by first | exact Or.inl rfl | exact Or.inr rfl) (hs : swapsWith e (some (.Name x px)) pos.line X.env = pure false := by rfl)
    (hf : X.fn x = true ∨ X.env.scope.names.lookup x = some .local := by first | exact .inl rfl | exact .inr rfl | assumption) : PS X (.Assign [.Name x px] e pos) (denS X.K Y (asgO i cs)) := ps_imp (ps_set nd hi hx he hs hf) fun _ _ _ => den_asgO
theorem shput {cd ck cv : M PV} {d key v : Expr} {p2 : Pos} (hu : X.A.units + 128 < cLine) (hd : PE X d (den X.K Y cd)) (hk : PE X key (den X.K Y ck)) (hv : PE X v (den X.K Y cv)) (hs : swapsWith v (some (.Subscript d key p2)) pos.line X.env = pure false := by rfl) :
    PS X (.Assign [.Subscript d key p2] v pos) (denS X.K Y (hputM cd ck cv)) := ps_imp (ps_dput (by omega) hd hk hv hs) fun _ _ _ => den_hput
theorem spar2 (i j : Nat) {x y : Str} {kt k2 : Nat} {py pt pt2 : Pos} (hc : X.calm = true) (nd : X.N.Nodup) (ha : PE X a (den X.K Y ca)) (hb : PE X b (den X.K Y cb)) (hi : X.N[i]? = some x := by rfl) (hj : X.N[j]? = some y := by rfl) (hij : i ≠ j := by decide)
    (hx : X.env.scope.names.lookup x = some .local := by rfl) (hy : X.env.scope.names.lookup y = some .local := by rfl) (hw : swappedStores [.Tuple [.Name x px, .Name y py] kt pt] (.Tuple [a, b] k2 pt2) X.env = pure (some [x, y]) := by rfl)
    (hs : swapsWithSole [.Tuple [.Name x px, .Name y py] kt pt] (.Tuple [a, b] k2 pt2) pos.line X.env = pure false := by rfl) (h1 : starEach [a, b] X.env = (false, eval a X.env) :: starEach [b] X.env := by rfl) (h2 : starEach [b] X.env = (false, eval b X.env) :: starEach [] X.env := by rfl) :
    PS X (.Assign [.Tuple [.Name x px, .Name y py] kt pt] (.Tuple [a, b] k2 pt2) pos) (denS X.K Y (par2 i j ca cb)) := ps_imp (ps_par hc nd hi hj hij hx hy (pa_cons ha (pa_cons hb pa_nil h2) h1) hw hs) fun _ _ _ => den_par2
theorem spar3 (i j l : Nat) {x y z : Str} {kt k2 : Nat} {py pz pt pt2 : Pos} (hc : X.calm = true) (nd : X.N.Nodup) (ha : PE X a (den X.K Y ca)) (hb : PE X b (den X.K Y cb)) (hcc : PE X c (den X.K Y cd)) (hi : X.N[i]? = some x := by rfl) (hj : X.N[j]? = some y := by rfl) (hl : X.N[l]? = some z := by rfl)
    (hij : i ≠ j := by decide) (hil : i ≠ l := by decide) (hjl : j ≠ l := by decide) (hx : X.env.scope.names.lookup x = some .local := by rfl) (hy : X.env.scope.names.lookup y = some .local := by rfl) (hz : X.env.scope.names.lookup z = some .local := by rfl)
    (hw : swappedStores [.Tuple [.Name x px, .Name y py, .Name z pz] kt pt] (.Tuple [a, b, c] k2 pt2) X.env = pure (some [x, y, z]) := by rfl) (hs : swapsWithSole [.Tuple [.Name x px, .Name y py, .Name z pz] kt pt] (.Tuple [a, b, c] k2 pt2) pos.line X.env = pure false := by rfl)
    (h1 : starEach [a, b, c] X.env = (false, eval a X.env) :: starEach [b, c] X.env := by rfl) (h2 : starEach [b, c] X.env = (false, eval b X.env) :: starEach [c] X.env := by rfl) (h3 : starEach [c] X.env = (false, eval c X.env) :: starEach [] X.env := by rfl) :
    PS X (.Assign [.Tuple [.Name x px, .Name y py, .Name z pz] kt pt] (.Tuple [a, b, c] k2 pt2) pos) (denS X.K Y (par3 i j l ca cb cd)) := ps_imp (ps_par3 hc nd hi hj hl hij hil hjl hx hy hz (pa_cons ha (pa_cons hb (pa_cons hcc pa_nil h3) h2) h1) hw hs) fun _ _ _ => den_par3
/-! ### what is walked -/
theorem iu {tg : Expr} (h : PE X e (den X.K Y ce)) : PI X tg e (iU X.K (den X.K Y ce)) := pi_u h
theorem irng {tg : Expr} (hm : X.mg "range" = none) (h : PE X e (den X.K Y ce)) (hg : Gl X "range" := by rfl) (hs : starEach [e] X.env = [(false, eval e X.env)] := by rfl) : PI X tg (.Call (.Name "range" p) [e] [] pos) (iRng1 (tCons (den X.K Y ce) tNil)) := pi_range1 hg hm (pa_cons h pa_nil hs) hs
theorem sfor (i : Nat) {x : Str} {wi : TI} {cs : M (List PV)} {iter : Expr} (hc : X.calm = true) (nd : X.N.Nodup) (hp : PassesOwn (model X.prog X.w) X.A X.env X.xe) (hi : PI X (.Name x px) iter wi) (hw : SrcOk Y wi X.K cs) (hb : PSs X sa (denS X.K Y fa)) (hN : X.N[i]? = some x := by rfl)
    (hx : Loc X.env.scope x := by first | exact Or.inl rfl | exact Or.inr rfl) (hf : X.fn x = true ∨ X.env.scope.names.lookup x = some .local := by first | exact .inl rfl | exact .inr rfl | assumption) (hs : ∀ x, foldedSetIterable iter X.env x = pure x := by intro _; rfl) :
    PS X (.For (.Name x px) iter sa [] pos) (denS X.K Y (loopM cs i fa)) := ps_imp (ps_for hp hc hi (pg_name nd hN hx hf) hb hs) fun _ _ _ => den_for hw
theorem swhile (n : Nat) (hp : PassesOwn (model X.prog X.w) X.A X.env X.xe) (hc : PT X c (denT X.K Y tc)) (hb : PSs X sa (denS X.K Y fa)) : PS X (.While c sa [] pos) (denS X.K Y (whM tc fa n)) := ps_imp (ps_while hp hc hb) fun _ _ _ => den_while
/-! ### comprehensions -/
theorem tsN : PTs X [] (denT X.K Y (ret true)) := ⟨fun pins s σ H Q I h => pts_nil.run pins s σ H Q I (by
  obtain ⟨C, W, s, at', p⟩ := h
  exact p W H (Vw.Le.refl _) at')⟩
theorem olc (i : Nat) {x : Str} {elt iter : Expr} {ifs : List Expr} {scope : Scope} {own : List (Str × Nat)} {wi : TI} {cs : M (List PV)} (hc : X.calm = true) (nd : X.N.Nodup) (hi : PI X (.Name x px) iter wi) (hw : SrcOk Y wi X.K cs) (ok : BlkOk X.N X.env.scope scope own) (hio : i ∈ own.map (·.2))
    (hg : ∀ (s : Shared) (H : Hp) (C : Addr) (cl : List (Str × Addr)) (fp : List Addr), PG (X.blk s H scope (compEnvC scope cl C X.env) fp) (.Name x px) (gName i)) (ht : ∀ (s : Shared) (H : Hp) (C : Addr) (cl : List (Str × Addr)) (fp : List Addr), PTs (X.blk s H scope (compEnvC scope cl C X.env) fp) ifs (denT X.K yF tc))
    (he : ∀ (s : Shared) (H : Hp) (C : Addr) (cl : List (Str × Addr)) (fp : List Addr), PE (X.blk s H scope (compEnvC scope cl C X.env) fp) elt (den X.K yF ce)) (hs : ∀ x, foldedSetIterable iter X.env x = pure x := by intro _; rfl) :
    PE X (.ListComp elt [⟨.Name x px, iter, ifs, 0⟩] scope pos) (denO X.K Y (lcM cs i (own.map (·.2)) tc ce)) := pe_imp (pe_lc hc nd hi ok hg ht he hs) fun _ _ _ => den_lc hw hio
/-- the same, the value at once frozen -/
theorem slcV (l i : Nat) {y x : Str} {py : Pos} {elt iter : Expr} {ifs : List Expr} {scope : Scope} {own : List (Str × Nat)} {spos : Pos} {wi : TI} {cs : M (List PV)} (hc : X.calm = true) (nd : X.N.Nodup) (hi : PI X (.Name x px) iter wi) (hw : SrcOk Y wi X.K cs) (ok : BlkOk X.N X.env.scope scope own) (hio : i ∈ own.map (·.2))
    (hg : ∀ (s : Shared) (H : Hp) (C : Addr) (cl : List (Str × Addr)) (fp : List Addr), PG (X.blk s H scope (compEnvC scope cl C X.env) fp) (.Name x px) (gName i)) (ht : ∀ (s : Shared) (H : Hp) (C : Addr) (cl : List (Str × Addr)) (fp : List Addr), PTs (X.blk s H scope (compEnvC scope cl C X.env) fp) ifs (denT X.K yF tc))
    (he : ∀ (s : Shared) (H : Hp) (C : Addr) (cl : List (Str × Addr)) (fp : List Addr), PE (X.blk s H scope (compEnvC scope cl C X.env) fp) elt (den X.K yF ce)) (hy : X.N[l]? = some y := by rfl) (hyl : X.env.scope.names.lookup y = some .local := by rfl)
    (hsw : swapsWith (.ListComp elt [⟨.Name x px, iter, ifs, 0⟩] scope pos) (some (.Name y py)) spos.line X.env = pure true := by exact sw_true rfl rfl rfl (by kernel_rfl)) (hs : ∀ x, foldedSetIterable iter X.env x = pure x := by intro _; rfl) :
    PS X (.Assign [.Name y py] (.ListComp elt [⟨.Name x px, iter, ifs, 0⟩] scope pos) spos) (denS X.K Y (asgM l (lstM (lcM cs i (own.map (·.2)) tc ce)))) :=
  ps_imp (ps_setLc hc nd hy hyl hsw hi ok hg ht he hs) fun D σ H h => by
    obtain ⟨C, W, s, at', p⟩ := h
    refine (den_lc hw hio ⟨C, W, s, at', ?_⟩ : tLc wi (gName i) _ _ _ σ H (fun x H1 => gName l x σ H1 D.nx))
    refine (Pst.bnd (f := fun ds => ret (PV.lst ds)) (PstS.bnd p)).imp fun ds s1 W1 H1 l1 at1 p1 q vs hq rvs => ?_
    obtain ⟨W2, l2, at2, r2⟩ := at1.layL hq rvs
    exact (p1 W2 _ l2 at2) W2 _ _ (Vw.Le.refl _) (at2.set r2 l)
/-! ### methods of lists that a name owns -/
theorem xapp (i : Nat) {x : Str} {apos : Pos} (he : PE X e (den X.K Y ce)) (hN : X.N[i]? = some x := by rfl) (hv : Vis X.env.scope x := by first | exact Or.inl rfl | exact Or.inr (Or.inl rfl) | exact Or.inr (Or.inr rfl)) (hd : (x == ("__debug__" : Str)) = false := by decide) (hcd : (x == ("__classdict__" : Str)) = false := by decide)
    (hbase : attributeBase (.Name x px) "append" X.env (eval (.Name x px) X.env) = eval (.Name x px) X.env := by rfl)
    (hfew : ((backTo pos (starEach [e] X.env)).all (fun x => !x.1) && (backToKw pos (keywordEach [] X.env)).all (fun x => x.1.isSome) && decide ([e].length + ([] : List Keyword).length + (if ([] : List Keyword).isEmpty then 0 else 1) < 30)) = true := by rfl)
    (hline : (apos.endLine == pos.line) = true := by rfl) (hs : starEach [e] X.env = (false, eval e X.env) :: starEach [] X.env := by rfl) (hplain : (backTo pos (starEach [] X.env)).any (·.1) = false := by rfl) :
    PE X (.Call (.Attribute (.Name x px) "append" apos) [e] [] pos) (den X.K Y (appM i ce)) :=
  pe_imp (pe_bm PySem.F.plainAttrs_list PySem.F.slot_list_append PySem.F.type_list_append mt_append (pe_var hN hv hd hcd) (pa_cons he pa_nil hs) hbase hfew hline hs hplain) fun _ _ _ => den_app
/-! ### dict displays: handles -/
theorem kN : PPs X pos [] [] (trsOf X.K Y []) := pps_nil
theorem kC {x : Str} {j : Nat} {p2 : Pos} {v : Expr} {ks : List (Option Expr)} {vs : List Expr} {cv : M PV} {r : List (Str × M PV)} (hv : PE X v (den X.K Y cv)) (hr : PPs X pos ks vs (trsOf X.K Y r)) : PPs X pos (some (.Constant (.str x) j p2) :: ks) (v :: vs) (trsOf X.K Y ((x, cv) :: r)) := pps_cons pe_str hv hr
/-! ### calls -/
theorem xcall {m : Fn} {np : Nat} {cs : M (List PV)} {x : Str} {f : Addr} {fd : FuncData} {ps : List Str} (n : Nat) (F : FnG X.prog X.w X.K X.mg X.base (L2.CX X.prog X.w) k f fd ps (spM X.K np m)) (hl : ∀ n ds st, m n ds st ≠ .stk → ds.length = np) (hgd : X.A.guards = some []) (hr : Room k X.A) (tk : Takes X Y) (hm : X.mg x = some (.ref f)) (hk : PySem.W.keepIn X.K (.ref f) = true)
    (hb : Binds X.K fd ps []) (ha : PA X (e :: es) (denA X.K Y cs)) (hg : Gl X x := by rfl) (hdb : (x == ("__debug__" : Str)) = false := by decide) (he : starEach (e :: es) X.env = (false, eval e X.env) :: starEach es X.env := by rfl) (hpl : (backTo pos (starEach es X.env)).any (·.1) = false := by rfl) :
    PE X (.Call (.Name x p) (e :: es) [] pos) (den X.K Y (callM m n cs)) := pe_imp (pe_callG F hgd hr hg hm hk hb (fun σ => passAt tk σ) ha hdb he hpl) fun _ _ _ => den_call (hl n)
end
theorem takesF {X : Cx} : Takes X yF := fun _ _ x => by
  obtain ⟨_, _, _, _, _, _, _, _, _, _, _, _, _, _, _, _, w⟩ := x
  exact w.elim
theorem roomU {k : Nat} {A : Around} (h : Room k A) : A.units + 128 < cLine := by have := h.un; omega
/-- what a def of the text needs to be called -/
structure Df (P : Program) (w : World) (K : PySem.W.Frag) (mg : Str → Option Value) (base : Heap) (k : Nat) (x : Str) (ps : List Str) (m : Fn) : Prop where
  ex : ∃ (f : Addr) (fd : FuncData), FnG P w K mg base (L2.CX P w) k f fd ps (spM K ps.length m) ∧ mg x = some (.ref f) ∧ PySem.W.keepIn K (.ref f) = true ∧ Binds K fd ps []
  len : ∀ n ds st, m n ds st ≠ .stk → ds.length = ps.length
theorem xdef {Y : WX} {X : Cx} {k j : Nat} {x : Str} {ps : List Str} {m : Fn} {cs : M (List PV)} {e : Expr} {es : List Expr} {p pos : Pos} (n : Nat) (F : Df X.prog X.w X.K X.mg X.base j x ps m) (hgd : X.A.guards = some []) (hr : Room k X.A) (tk : Takes X Y) (hjk : j ≤ k) (ha : PA X (e :: es) (denA X.K Y cs)) (hg : Gl X x := by rfl)
    (hdb : (x == ("__debug__" : Str)) = false := by decide) (he : starEach (e :: es) X.env = (false, eval e X.env) :: starEach es X.env := by rfl) (hpl : (backTo pos (starEach es X.env)).any (·.1) = false := by rfl) :
    PE X (.Call (.Name x p) (e :: es) [] pos) (den X.K Y (callM m n cs)) := by
  obtain ⟨f, fd, G, hm, hk, hb⟩ := F.ex
  exact xcall n G F.len hgd (hr.mono hjk) tk hm hk hb ha hg hdb he hpl
end Dn
/-! Den9: the law's end. -/
namespace Dn
open PySem L2 PySem.Spec PyProof.Rows
theorem xdisp {X : Cx} {keys : List (Option Expr)} {values : List Expr} {pos : Pos} {kcs : List (Str × M PV)} (h : PPs X pos keys values (trsOf X.K Y kcs)) (hall : keys.all (·.isSome) = true := by rfl) (hl : keys.length = values.length := by rfl) (h0 : keys ≠ [] := by exact fun z => by cases z) (h15 : keys.length ≤ 15 := by decide) :
    PE X (.Dict keys values pos) (den X.K Y (dispM kcs)) := pe_imp (pe_disp h hall hl h0 h15) fun _ _ _ => den_disp
/-! ### a, b = e -/
def gNs : List Nat → TGs
  | [] => gNil
  | i :: r => gCons (gName i) (gNs r)
def setAll : List Nat → List PV → M Fl
  | [], [] => ret .nx
  | i :: is, d :: ds => bnd (setV i d) fun _ => setAll is ds
  | _, _ => stuck
def unpM (is : List Nat) (c : M PV) : M Fl := bnd c fun d => match d with
  | .tup xs => if xs.length = is.length then setAll is xs else stuck
  | _ => stuck
theorem den_setAll {K : PySem.W.Frag} : ∀ (is : List Nat) (ds : List PV) {C : Ctx} {W : Vw} {s : S} {σ : L2.St} {H : Hp} {D : Ends} {vs : List V}, At K C W s σ H → Reps K W vs ds → PstS K C W D (setAll is ds s) → gNs is vs σ H D.nx
  | [], [], C, W, s, σ, H, D, vs, a, r, p => by
    cases r
    exact ⟨rfl, p W σ H (Vw.Le.refl _) a⟩
  | i :: is, d :: ds, C, W, s, σ, H, D, vs, a, r, p => by
    cases r with
    | cons r rs => exact ⟨_, _, rfl, den_setAll is ds (a.set r i) rs p⟩
  | [], _ :: _, _, _, _, _, _, _, _, _, _, p => p.elim
  | _ :: _, [], _, _, _, _, _, _, _, _, _, p => p.elim
theorem den_unp {K : PySem.W.Frag} {is : List Nat} {ca : M PV} {D : Ends} {σ : L2.St} {H : Hp} (h : denS K Y (unpM is ca) D σ H) : tAsg (den K Y ca) (gTup K is.length (gNs is)) D σ H := by
  obtain ⟨C, W, s, at', p⟩ := h
  refine ⟨C, W, s, at', (PstS.bnd p).imp fun d s1 W1 H1 l1 at1 p1 v rv => ?_⟩
  cases d <;> try exact p1.elim
  rename_i xs
  cases rv with
  | tup hq rs =>
    have p2 : PstS K (C.wi Y) W1 D ((if xs.length = is.length then setAll is xs else stuck) s1) := p1
    by_cases hl : xs.length = is.length
    · rw [if_pos hl] at p2
      exact ⟨_, _, rfl, same_t at1.ok.sub hq, by rw [rs.length]; exact hl, den_setAll _ _ at1 rs p2⟩
    · rw [if_neg hl] at p2
      exact p2.elim
theorem gn {X : Cx} (i : Nat) {x : Str} {px : Pos} (nd : X.N.Nodup) (hN : X.N[i]? = some x := by rfl) (hx : Loc X.env.scope x := by first | exact Or.inl rfl | exact Or.inr rfl) (hf : X.fn x = true ∨ X.env.scope.names.lookup x = some .local := by first | exact .inl rfl | exact .inr rfl | assumption) : PG X (.Name x px) (gName i) := pg_name nd hN hx hf
theorem sunp {X : Cx} (is : List Nat) {ca : M PV} {e : Expr} {es : List Expr} {pos pt : Pos} {kt : Nat} (hc : X.calm = true) (he : PE X e (den X.K Y ca)) (hg : PGs X es (gNs is)) (hn : (assignEach es X.env).length = is.length := by rfl) (hst : (assignEach es X.env).findIdx? (·.1) = none := by rfl)
    (hs : swapsWithSole [.Tuple es kt pt] e pos.line X.env = pure false := by rfl) (hw : swappedStores [.Tuple es kt pt] e X.env = pure none := by rfl) (h1 : (assignEach [.Tuple es kt pt] X.env).map (·.2) = [assign (.Tuple es kt pt) X.env] := by rfl) :
    PS X (.Assign [.Tuple es kt pt] e pos) (denS X.K Y (unpM is ca)) := ps_imp (ps_asg he (pg_tup hc hg hn hst) hs hw h1) fun _ _ _ => den_unp
theorem den_tup2VO {K : PySem.W.Frag} {i j : Nat} {ca : M PV} {cb : M (List PV)} {D : Ends} {σ : L2.St} {H : Hp} (h : denS K Y (par2VO i j ca cb) D σ H) : tAsg (tTup (tCons (den K Y ca) (tCons (denO K Y cb) tNil))) (gTup K 2 (gNs [i, j])) D σ H := by
  obtain ⟨C, W, s, at', p⟩ := h
  refine ⟨C, W, s, at', (PstS.bnd p).imp fun x s1 W1 H1 l1 at1 p1 v rv => ⟨C, W1, s1, at1, (PstS.bnd p1).imp fun y s2 W2 H2 l2 at2 p2 q vs hq rvs => ?_⟩⟩
  refine ⟨by show 2 ≤ sizeLine; decide, fun t ht => ⟨t, _, rfl, SqT.of upd_same, rfl, ?_⟩⟩
  have at3 := ((at2.set (rv.mono l2) i).setO hq rvs j).extra ht (.tup [v, .ref q])
  exact ⟨_, _, rfl, _, _, rfl, rfl, p2 W2 _ _ (Vw.Le.refl _) at3⟩
/-- one of the names a cell -/
theorem spar2VOc (i j : Nat) {X : Cx} {x y : Str} {kt k2 : Nat} {px py pt pt2 pos : Pos} {a b : Expr} {ca : M PV} {cb : M (List PV)} (hc : X.calm = true) (nd : X.N.Nodup) (ha : PE X a (den X.K Y ca)) (hb : PE X b (denO X.K Y cb)) (h1 : starEach [a, b] X.env = (false, eval a X.env) :: starEach [b] X.env := by rfl)
    (h2 : starEach [b] X.env = (false, eval b X.env) :: starEach [] X.env := by rfl) (hg : PGs X [.Name x px, .Name y py] (gNs [i, j]) := by exact pgs_cons (gn _ nd) (pgs_cons (gn _ nd) pgs_nil)) (hn : (assignEach [.Name x px, .Name y py] X.env).length = 2 := by rfl) (hst : (assignEach [.Name x px, .Name y py] X.env).findIdx? (·.1) = none := by rfl)
    (hs : swapsWithSole [.Tuple [.Name x px, .Name y py] kt pt] (.Tuple [a, b] k2 pt2) pos.line X.env = pure false := by rfl) (hw : swappedStores [.Tuple [.Name x px, .Name y py] kt pt] (.Tuple [a, b] k2 pt2) X.env = pure none := by rfl)
    (h3 : (assignEach [.Tuple [.Name x px, .Name y py] kt pt] X.env).map (·.2) = [assign (.Tuple [.Name x px, .Name y py] kt pt) X.env] := by rfl) :
    PS X (.Assign [.Tuple [.Name x px, .Name y py] kt pt] (.Tuple [a, b] k2 pt2) pos) (denS X.K Y (par2VO i j ca cb)) := ps_imp (ps_asg (pe_tup (pa_cons ha (pa_cons hb pa_nil h2) h1)) (pg_tup hc hg hn hst) hs hw h3) fun _ _ _ => den_tup2VO
/-! ### -e -/
/-- the script's place: known to the object, or one of the module's own -/
def scrH (K : PySem.W.Frag) (a : Addr) (ob : Obj) (ns : List Int) : Hp := fun b => if b = a ∧ K.lookup a = none then some (.frz ob (.lst (ns.map V.int))) else none
end Dn
/-! Ob1: instances: made as two handles (the object, its dict), frozen when they are done. -/
namespace Dn
open PySem L2 PySem.Spec PyProof.Rows
section
variable {Y : WX} {K : PySem.W.Frag} {C : Ctx} {W W' : Vw} {σ : L2.St} {H : Hp} {s : S} {x dx Cc : Addr} {c : Str} {Q : VK}
theorem two_left {α : Type} {l : List α} {a b : α} {n : Nat} (h : n < l.length) : (l ++ [a, b])[n]? = l[n]? := List.getElem?_append_left h
theorem two_0 {α : Type} {l : List α} {a b : α} : (l ++ [a, b])[l.length]? = some a := by
  rw [List.getElem?_append_right (Nat.le_refl _), Nat.sub_self]
  rfl
theorem two_1 {α : Type} {l : List α} {a b : α} : (l ++ [a, b])[l.length + 1]? = some b := by
  rw [List.getElem?_append_right (Nat.le_succ _), show l.length + 1 - l.length = 1 by omega]
  rfl
theorem two_cases {α : Type} {l : List α} {a b z : α} {n : Nat} (h : (l ++ [a, b])[n]? = some z) : (n < l.length ∧ l[n]? = some z) ∨ (n = l.length ∧ z = a) ∨ (n = l.length + 1 ∧ z = b) := by
  have hlt := (List.getElem?_eq_some_iff.mp h).1
  rw [List.length_append] at hlt
  have hlt : n < l.length + 2 := hlt
  by_cases h1 : n < l.length
  · rw [two_left h1] at h
    exact .inl ⟨h1, h⟩
  · by_cases h2 : n = l.length
    · subst h2
      rw [two_0] at h
      exact .inr (.inl ⟨rfl, (Option.some.inj h).symm⟩)
    · have h3 : n = l.length + 1 := by omega
      subst h3
      rw [two_1] at h
      exact .inr (.inr ⟨rfl, (Option.some.inj h).symm⟩)
/-- a new instance and its dict: two handles -/
theorem At.newI (h : At K C W s σ H) (hx : H x = none) (hd : H dx = none) (ne : dx ≠ x) (hc : ClsAt K c Cc) :
    W.Le ⟨W.F, W.hs ++ [x, dx]⟩ ∧ At K C ⟨W.F, W.hs ++ [x, dx]⟩ { s with sto := s.sto ++ [.ins c [] [], .own s.sto.length] } σ (upd (upd H dx (.own x)) x (.ins Cc dx [])) ∧ Rep K ⟨W.F, W.hs ++ [x, dx]⟩ (.ref x) (.hnd s.sto.length) := by
  obtain ⟨f1, f2, f3⟩ := h.fresh hx
  obtain ⟨g1, g2, g3⟩ := h.fresh hd
  have len := h.ok.len
  have le : W.Le ⟨W.F, W.hs ++ [x, dx]⟩ := ⟨Same.refl _, fun n a e => by
    show (W.hs ++ [x, dx])[n]? = _
    rw [two_left (List.getElem?_eq_some_iff.mp e).1]
    exact e⟩
  have h0 : (W.hs ++ [x, dx])[s.sto.length]? = some x := by rw [len]; exact two_0
  have h1 : (W.hs ++ [x, dx])[s.sto.length + 1]? = some dx := by rw [len]; exact two_1
  have eo : ∀ {b : Addr}, b ≠ x → b ≠ dx → upd (upd H dx (.own x)) x (.ins Cc dx []) b = H b := fun {b} n1 n2 => by rw [upd_ne n1, upd_ne n2]
  refine ⟨le, ⟨⟨fun b u e => ?_, fun n b e => ?_, ?_, ?_⟩, fun b u e hb => ?_, fun n b e => le.pre n b (h.pre n b e), fun b hb => ?_, h.len, fun j e he => ?_, fun j ys e => ?_, h.dst⟩, .hnd h0⟩
  · rw [eo (fun z => by rw [z, f1] at e; cases e) (fun z => by rw [z, g1] at e; cases e)]
    exact h.ok.sub b u e
  · have e : (W.hs ++ [x, dx])[n]? = some b := e
    rcases two_cases e with ⟨hn, e⟩ | ⟨hn, rfl⟩ | ⟨hn, rfl⟩
    · have nb : b ≠ x ∧ b ≠ dx := ⟨fun z => f2 (z ▸ List.mem_of_getElem? e), fun z => g2 (z ▸ List.mem_of_getElem? e)⟩
      refine (h.ok.hnd n b e).map rfl ?_ fun mo r => (r.at (eo nb.1 nb.2)).mono le
      show (s.sto ++ _)[n]? = _
      rw [two_left (by rw [len]; exact hn)]
    · refine .inl ⟨f1, .ins c [] [], ?_, .ins (n := s.sto.length) (us := []) hc ?_ h0 h1 rfl .nil⟩
      · show (s.sto ++ [_, _])[n]? = _
        rw [hn, ← len]
        exact two_0
      · exact upd_same
    · refine .inl ⟨g1, .own s.sto.length, ?_, .own h0 ?_⟩
      · show (s.sto ++ [_, _])[n]? = _
        rw [hn, ← len]
        exact two_1
      · rw [upd_ne ne, upd_same]
  · show (W.hs ++ [x, dx]).Nodup
    rw [List.nodup_append]
    refine ⟨h.ok.nd, by simp [ne.symm], fun a ha b hb z => ?_⟩
    subst z
    simp only [List.mem_cons, List.not_mem_nil, or_false] at hb
    rcases hb with rfl | rfl
    · exact f2 ha
    · exact g2 ha
  · show (s.sto ++ _).length = (W.hs ++ _).length
    rw [List.length_append, List.length_append, len]
    rfl
  · rw [eo (fun z => by rw [z, f3] at e; cases e) (fun z => by rw [z, g3] at e; cases e)]
    exact h.keep b u e hb
  · obtain ⟨k1, k2⟩ := h.gro b hb
    refine ⟨k1, fun hm => ?_⟩
    rcases List.mem_append.mp hm with hm | hm
    · exact k2 hm
    · simp only [List.mem_cons, List.not_mem_nil, or_false] at hm
      rcases hm with rfl | rfl
      · exact absurd f3 hb
      · exact absurd g3 hb
  · obtain ⟨v, e1, r⟩ := h.val j e he
    exact ⟨v, e1, r.mono le⟩
  · obtain ⟨b, ws, e1, ow, e2, r2⟩ := h.own j ys e
    have n1 : b ≠ x := ne_of_none e2 hx
    have n2 : b ≠ dx := ne_of_none e2 hd
    refine ⟨b, ws, e1, ⟨ow.f, fun hm => ?_, ow.g⟩, by rw [eo n1 n2]; exact e2, r2.mono le⟩
    rcases List.mem_append.mp hm with hm | hm
    · exact ow.h hm
    · simp only [List.mem_cons, List.not_mem_nil, or_false] at hm
      rcases hm with rfl | rfl
      · exact n1 rfl
      · exact n2 rfl
/-- a handle of this body's making is nothing of the callers' -/
theorem At.mine {n : Nat} {a : Addr} (h : At K C W s σ H) (hn : C.hs0.length ≤ n) (e : W.hs[n]? = some a) : C.G a = none ∧ a ∉ C.hs0 := by
  have no : a ∉ C.hs0 := fun hm => by
    obtain ⟨m, hm⟩ := List.getElem?_of_mem hm
    have e2 := h.pre m a hm
    obtain ⟨l1, y1⟩ := List.getElem?_eq_some_iff.mp e
    obtain ⟨l2, y2⟩ := List.getElem?_eq_some_iff.mp e2
    have : n = m := (List.getElem_inj h.ok.nd).mp (y1.trans y2.symm)
    have := (List.getElem?_eq_some_iff.mp hm).1
    omega
  refine ⟨?_, no⟩
  cases z : C.G a with
  | none => rfl
  | some o => exact absurd ((h.gro a (by rw [z]; exact fun q => nomatch q)).2 (List.mem_of_getElem? e)) no
/-- the instance at the handle k is done: it is a value from now on -/
theorem At.done {k : Nat} {ks : List Str} {vs : List PV} (h : At K C W s σ H) (hk : C.hs0.length ≤ k) (hx : W.hs[k]? = some x) (e1 : s.sto[k]? = some (.ins c ks vs)) (e2 : s.sto[k + 1]? = some (.own k)) :
    ∃ W', W.Le W' ∧ At K C W' { s with sto := (s.sto.set k .gone).set (k + 1) .gone } σ H ∧ Rep K W' (.ref x) (.obj c ks vs) := by
  obtain ⟨fx, mx⟩ := h.ok.live hx e1 (fun z => nomatch z)
  cases mx with
  | @ins Cc dx n _ _ us _ hc hH hn hn1 hl ru =>
  have ix : ∀ {m m' : Nat} {a : Addr}, W.hs[m]? = some a → W.hs[m']? = some a → m = m' := fun {m m' a} p q => by
    obtain ⟨l1, y1⟩ := List.getElem?_eq_some_iff.mp p
    obtain ⟨l2, y2⟩ := List.getElem?_eq_some_iff.mp q
    exact (List.getElem_inj h.ok.nd).mp (y1.trans y2.symm)
  have hnk : n = k := ix hn hx
  subst hnk
  obtain ⟨fd, md⟩ := h.ok.live hn1 e2 (fun z => nomatch z)
  cases md with
  | @own m x' hm hHd =>
  rw [hx] at hm
  cases hm
  have ne : dx ≠ x := fun z => by
    have := ix hn1 (z ▸ hx)
    omega
  obtain ⟨gx, nx⟩ := h.mine hk hx
  obtain ⟨gd, nd⟩ := h.mine (Nat.le_succ_of_le hk) hn1
  let F' : Hp := upd (upd W.F x (.ins Cc dx (ks.zip us))) dx (.own x)
  have eF : ∀ {b : Addr}, b ≠ x → b ≠ dx → F' b = W.F b := fun {b} n1 n2 => by
    show upd (upd W.F x _) dx _ b = _
    rw [upd_ne n2, upd_ne n1]
  have Fx : F' x = some (.ins Cc dx (ks.zip us)) := by
    show upd (upd W.F x _) dx _ x = _
    rw [upd_ne ne.symm, upd_same]
  have Fd : F' dx = some (.own x) := upd_same
  have le : W.Le ⟨F', W.hs⟩ := ⟨fun b u e => (eF (fun z => by rw [z, fx] at e; cases e) (fun z => by rw [z, fd] at e; cases e)).trans e, fun _ _ e => e⟩
  have l1 : n < s.sto.length := (List.getElem?_eq_some_iff.mp e1).1
  have l2 : n + 1 < s.sto.length := (List.getElem?_eq_some_iff.mp e2).1
  refine ⟨⟨F', W.hs⟩, le, ⟨⟨fun b u e => ?_, fun m b e => ?_, h.ok.nd, ?_⟩, h.keep, h.pre, fun b hb => ?_, h.len, fun j e he => ?_, fun j ys e => ?_, h.dst⟩, .obj hc Fx Fd hl (ru.mono le)⟩
  · have e : F' b = some u := e
    by_cases hb : b = x
    · subst hb
      rw [Fx] at e
      rw [hH]
      exact e
    · by_cases hb2 : b = dx
      · subst hb2
        rw [Fd] at e
        rw [hHd]
        exact e
      · rw [eF hb hb2] at e
        exact h.ok.sub b u e
  · by_cases hm : m = n
    · subst hm
      have hbx : b = x := by
        have e : W.hs[m]? = some b := e
        rw [hx] at e
        exact (Option.some.inj e).symm
      subst hbx
      refine .inr ⟨by (show F' b ≠ none; rw [Fx]; exact fun z => nomatch z), ?_⟩
      show ((s.sto.set m .gone).set (m + 1) .gone)[m]? = _
      rw [List.getElem?_set_ne (by omega), List.getElem?_set_self l1]
    · by_cases hm2 : m = n + 1
      · subst hm2
        have hbd : b = dx := by
          have e : W.hs[n + 1]? = some b := e
          rw [hn1] at e
          exact (Option.some.inj e).symm
        subst hbd
        refine .inr ⟨by (show F' b ≠ none; rw [Fd]; exact fun z => nomatch z), ?_⟩
        show ((s.sto.set n .gone).set (n + 1) .gone)[n + 1]? = _
        rw [List.getElem?_set_self (by rw [List.length_set]; exact l2)]
      · have n1 : b ≠ x := fun z => hm (ix e (z ▸ hx))
        have n2 : b ≠ dx := fun z => hm2 (ix e (z ▸ hn1))
        refine (h.ok.hnd m b e).map (eF n1 n2) ?_ fun mo r => r.mono le
        show ((s.sto.set n .gone).set (n + 1) .gone)[m]? = _
        rw [List.getElem?_set_ne (fun z => hm2 z.symm), List.getElem?_set_ne (fun z => hm z.symm)]
  · show ((s.sto.set n .gone).set (n + 1) .gone).length = _
    rw [List.length_set, List.length_set]
    exact h.ok.len
  · obtain ⟨k1, k2⟩ := h.gro b hb
    exact ⟨(eF (fun z => hb (by rw [z]; exact gx)) (fun z => hb (by rw [z]; exact gd))).trans k1, k2⟩
  · obtain ⟨v, q1, r⟩ := h.val j e he
    exact ⟨v, q1, r.mono le⟩
  · obtain ⟨b, ws, q1, ow, q2, r2⟩ := h.own j ys e
    have n1 : b ≠ x := fun z => ow.h (z ▸ List.mem_of_getElem? hx)
    have n2 : b ≠ dx := fun z => ow.h (z ▸ List.mem_of_getElem? hn1)
    exact ⟨b, ws, q1, ⟨(eF n1 n2).trans ow.f, ow.h, ow.g⟩, q2, r2.mono le⟩
end
end Dn
/-! Ob2: attributes of instances, read and stored. -/
namespace Dn
open PySem L2 PySem.Spec PyProof.Rows
def putKV (f : Str) (v : PV) : List Str → List PV → List Str × List PV
  | k :: ks, w :: vs => if k = f then (k :: ks, v :: vs) else let r := putKV f v ks vs; (k :: r.1, w :: r.2)
  | _, _ => ([f], [v])
section
variable {Y : WX} {K : PySem.W.Frag} {C : Ctx} {W W' : Vw} {σ : L2.St} {H : Hp} {s : S} {Q : VK} {ca cv : M PV} {D : Ends} {f : Str} {ks : List Str} {us : List V} {vs : List PV} {d : PV} {y : V}
theorem zip_look : ∀ {ks : List Str} {us : List V} {vs : List PV} {d : PV}, Reps K W us vs → (ks.zip vs).lookup f = some d → ∃ v, (ks.zip us).lookup f = some v ∧ Rep K W v d
  | [], _, _, _, _, h => by cases h
  | k :: ks, _, _, _, .nil, h => by cases h
  | k :: ks, u :: us, v :: vs, d, .cons r rs, h => by
    rw [List.zip_cons_cons, List.lookup] at h ⊢
    cases e : f == k with
    | true =>
      rw [e] at h
      cases h
      exact ⟨u, rfl, r⟩
    | false =>
      rw [e] at h
      exact zip_look rs h
theorem zip_none : ∀ {ks : List Str} {us : List V} {vs : List PV}, Reps K W us vs → ks.length = vs.length → (ks.zip vs).lookup f = none → (ks.zip us).lookup f = none
  | [], _, _, _, _, _ => rfl
  | k :: ks, _, _, .nil, l, _ => by cases l
  | k :: ks, u :: us, v :: vs, .cons r rs, l, h => by
    rw [List.zip_cons_cons, List.lookup] at h ⊢
    cases e : f == k with
    | true => rw [e] at h; cases h
    | false =>
      rw [e] at h
      exact zip_none rs (by simpa using l) h
theorem zip_put (ry : Rep K W y d) : ∀ {ks : List Str} {us : List V} {vs : List PV}, Reps K W us vs → ks.length = vs.length → ∃ us', putF f y (ks.zip us) = (putKV f d ks vs).1.zip us' ∧ Reps K W us' (putKV f d ks vs).2 ∧ (putKV f d ks vs).1.length = (putKV f d ks vs).2.length
  | [], us, [], r, _ => by
    cases r
    exact ⟨[y], rfl, .cons ry .nil, rfl⟩
  | [], _, _ :: _, _, l => by cases l
  | k :: ks, _, _, .nil, l => by cases l
  | k :: ks, u :: us, v :: vs, .cons r rs, l => by
    have l' : ks.length = vs.length := by simpa using l
    show ∃ us', putF f y ((k, u) :: ks.zip us) = _ ∧ _
    unfold putF putKV
    by_cases h : k = f
    · rw [if_pos h, if_pos h]
      exact ⟨y :: us, rfl, .cons ry rs, by simpa using l'⟩
    · rw [if_neg h, if_neg h]
      obtain ⟨us', e1, e2, e3⟩ := zip_put ry rs l'
      exact ⟨u :: us', by rw [e1]; rfl, .cons r e2, by simpa using e3⟩
/-- an instance where it stands: a value, or a handle -/
def insOf (s : S) : PV → Option (Str × List Str × List PV)
  | .obj c ks vs => some (c, ks, vs)
  | .hnd n => match s.sto[n]? with
    | some (.ins c ks vs) => some (c, ks, vs)
    | _ => none
  | _ => none
theorem insOf_rep {x : V} {c : Str} (h : At K C W s σ H) (r : Rep K W x d) (e : insOf s d = some (c, ks, vs)) : ∃ a Cc dx us, x = .ref a ∧ ClsAt K c Cc ∧ H a = some (.ins Cc dx (ks.zip us)) ∧ ks.length = vs.length ∧ Reps K W us vs := by
  cases r <;> try (have e : (none : Option (Str × List Str × List PV)) = some (c, ks, vs) := e; cases e)
  · rename_i a n hn
    unfold insOf at e
    dsimp only at e
    split at e
    · rename_i hs
      cases e
      cases (h.ok.live hn hs (fun z => nomatch z)).2 with
      | ins hc hH _ _ l ru => exact ⟨a, _, _, _, rfl, hc, hH, l, ru⟩
    · cases e
  · rename_i hc hF hd l ru
    cases e
    exact ⟨_, _, _, _, rfl, hc, h.ok.sub _ _ hF, l, ru⟩
theorem cls_uniq {c : Str} {C1 C2 : Addr} (h1 : ClsAt K c C1) (h2 : ClsAt K c C2) : C1 = C2 := by
  have h1 : PySem.W.nsIn K mainGlobals c = some (some (.ref C1)) := h1
  have h2 : PySem.W.nsIn K mainGlobals c = some (some (.ref C2)) := h2
  rw [h1] at h2
  cases h2
  rfl
/-- the classes of these names have no attribute f of their own -/
def FldOk (K : PySem.W.Frag) (f : Str) (cs : List Str) : Prop := ∀ c ∈ cs, ∃ Cc, ClsAt K c Cc ∧ Cls K Cc ∧ NoAttr K Cc f
/-- e.f -/
def fldM (cs : List Str) (f : Str) (d : PV) : M PV := fun s => match insOf s d with
  | some (c, ks, vs) => if c ∈ cs then (match (ks.zip vs).lookup f with
    | some v => .ok v s
    | none => .stk) else .stk
  | none => .stk
theorem den_fld {cs : List Str} (F : FldOk K f cs) (h : den K Y (bnd ca (fldM cs f)) σ H Q) : tFld K (den K Y ca) f σ H Q := by
  obtain ⟨C, W, s, at', p⟩ := h
  refine ⟨C, W, s, at', (Pst.bnd p).imp fun d s1 W1 H1 l1 at1 p1 x rx => ?_⟩
  unfold fldM at p1
  split at p1
  · rename_i c ks vs e
    split at p1
    · rename_i hc
      split at p1
      · rename_i v hv
        obtain ⟨a, Cc, dx, us, rfl, h1, h2, l, ru⟩ := insOf_rep at1 rx e
        obtain ⟨C2, k1, k2, k3⟩ := F c hc
        cases cls_uniq h1 k1
        obtain ⟨v', e2, r2⟩ := zip_look ru hv
        exact ⟨a, Cc, dx, _, v', rfl, h2, k2, k3, e2, p1 W1 H1 (Vw.Le.refl _) at1 _ r2⟩
      · exact p1.elim
    · exact p1.elim
  · exact p1.elim
/-- e.f = v, e a handle -/
def fputM (cs : List Str) (f : Str) (cd cv : M PV) : M Fl := bnd cv fun v => bnd cd fun d => fun s => match d with
  | .hnd n => match s.sto[n]? with
    | some (.ins c ks vs) => if c ∈ cs ∧ ks.length < 1000 then .ok .nx { s with sto := s.sto.set n (.ins c (putKV f v ks vs).1 (putKV f v ks vs).2) } else .stk
    | _ => .stk
  | _ => .stk
theorem den_fput {cs : List Str} {cd : M PV} (F : FldOk K f cs) (h : denS K Y (fputM cs f cd cv) D σ H) : sFld K (den K Y cd) (den K Y cv) f D σ H := by
  obtain ⟨C, W, s, at', p⟩ := h
  refine ⟨C, W, s, at', (PstS.bnd p).imp fun v s1 W1 H1 l1 at1 p1 y ry => ⟨C, W1, s1, at1, (PstS.bnd p1).imp fun d s2 W2 H2 l2 at2 p2 x rx => ?_⟩⟩
  split at p2
  · rename_i n
    split at p2
    · rename_i c ks vs hs
      split at p2
      · rename_i hc
        cases rx with
        | @hnd a _ hn =>
        obtain ⟨fa, mr⟩ := at2.ok.live hn hs (fun z => nomatch z)
        cases mr with
        | @ins Cc dx m _ _ us _ hC hH hm hm1 hl ru =>
        obtain ⟨C2, k1, k2, k3⟩ := F c hc.1
        cases cls_uniq hC k1
        obtain ⟨us', e1, e2, e3⟩ := zip_put (f := f) (ry.mono l2) ru hl
        refine ⟨a, Cc, dx, _, rfl, hH, k2, k3, ?_, ?_⟩
        · rw [List.length_zip, ru.length, ← hl, Nat.min_self]
          exact hc.2
        · rw [e1]
          exact p2 W2 _ _ (Vw.Le.refl _) (at2.putG hn hs (fun z => nomatch z) (.ins hC upd_same hm hm1 e3 e2))
      · exact p2.elim
    · exact p2.elim
  · exact p2.elim
/-- a constant of the class, an int -/
def ConOk (K : PySem.W.Frag) (f : Str) (i : Int) (cs : List Str) : Prop := ∀ c ∈ cs, ∃ Cc u, ClsAt K c Cc ∧ Cls K Cc ∧ Con K Cc f (.int i) u
def conM (cs : List Str) (f : Str) (i : Int) (d : PV) : M PV := fun s => match insOf s d with
  | some (c, ks, vs) => if c ∈ cs ∧ (ks.zip vs).lookup f = none then .ok (.int i) s else .stk
  | none => .stk
theorem den_con {cs : List Str} {i : Int} (F : ConOk K f i cs) (h : den K Y (bnd ca (conM cs f i)) σ H Q) : tCon K (den K Y ca) f σ H Q := by
  obtain ⟨C, W, s, at', p⟩ := h
  refine ⟨C, W, s, at', (Pst.bnd p).imp fun d s1 W1 H1 l1 at1 p1 x rx => ?_⟩
  unfold conM at p1
  split at p1
  · rename_i c ks vs e
    split at p1
    · rename_i hc
      obtain ⟨a, Cc, dx, us, rfl, h1, h2, l, ru⟩ := insOf_rep at1 rx e
      obtain ⟨C2, u, k1, k2, k3⟩ := F c hc.1
      cases cls_uniq h1 k1
      exact ⟨a, Cc, dx, _, _, u, rfl, h2, k2, k3, zip_none ru l hc.2, p1 W1 H1 (Vw.Le.refl _) at1 _ (.int i)⟩
    · exact p1.elim
  · exact p1.elim
end
section
variable {Y : WX} {X : Cx} {e o v : Expr} {f : Str} {pos p2 : Pos} {ce co cv : M PV}
theorem xfld {cs : List Str} (F : FldOk X.K f cs) (he : PE X e (den X.K Y ce)) (hb : attributeBase e f X.env (eval e X.env) = eval e X.env := by rfl) : PE X (.Attribute e f pos) (den X.K Y (bnd ce (fldM cs f))) := pe_imp (pe_fld he hb) fun _ _ _ => den_fld F
theorem xcon {cs : List Str} {i : Int} (F : ConOk X.K f i cs) (he : PE X e (den X.K Y ce)) (hb : attributeBase e f X.env (eval e X.env) = eval e X.env := by rfl) : PE X (.Attribute e f pos) (den X.K Y (bnd ce (conM cs f i))) := pe_imp (pe_con he hb) fun _ _ _ => den_con F
theorem sfput {cs : List Str} (F : FldOk X.K f cs) (ho : PE X o (den X.K Y co)) (hv : PE X v (den X.K Y cv)) (hs : swapsWith v (some (.Attribute o f p2)) pos.line X.env = pure false := by rfl) : PS X (.Assign [.Attribute o f p2] v pos) (denS X.K Y (fputM cs f co cv)) := ps_imp (ps_fld ho hv hs) fun _ _ _ => den_fput F
end
end Dn
/-! Ob3: calls with keywords, methods, properties, classes called. -/
namespace Dn
open PySem L2 PySem.Spec PyProof.Rows
/-! ### a call's arguments, stars among them -/
section
open PySem.W PySem.Calls
variable {M : Model} {A : Around} {E : Value → Shared → Prop} {s : Shared}
theorem callWith_any {f : Value} {first : List Value} {pos : Pos} {Q : Value → Shared → Prop} {P : Heap → Prop} {args : List (Bool × Sem Value)} {kws : List (Option Str × Sem Value)}
    (hk : ∀ h, P h → ∃ k, (k = Keeper.frame ∨ k = Keeper.machine ∨ k = Keeper.boundFrame) ∧ Looks M h (keeperOf f) k)
    (h : wpAny M A (evalArgs f true args kws) (fun a s₁ => P s₁.heap ∧ wpAny M A (call f (first ++ a.pos) a.kw) Q E s₁) E s) : wpAny M A (callWith pos f first args kws) Q E s := by
  unfold callWith
  refine wpAny_bind (wpAny_holding (wpAny_mono h (fun a s₁ h₁ => ?_) fun _ _ x => x))
  refine wpAny_bind (wpAny_standAt ?_)
  obtain ⟨k, hk', L⟩ := hk _ h₁.1
  have ends : ∀ {t : Sem Value}, wpAny M A t Q E s₁ → wpAny M A (t >>= fun r => holding [r] point >>= fun _ => pure r) Q E s₁ := fun ht => by
    refine wpAny_bind (wpAny_mono ht (fun r s₂ hr => ?_) fun _ _ x => x)
    exact wpAny_bind (wpAny_holding (wpAny_point (wpAny_pure hr)))
  have mk : ∀ v : Value, wpAny M A (callMarked v f (first ++ a.pos) a.kw) Q E s₁ := fun v => by
    unfold callMarked
    exact Calls.wpAny_keep h₁.2
  generalize (args.any (·.1) || kws.any (·.1.isNone)) = star
  refine wpAny_bind (L.here ?_)
  cases star <;> rcases hk' with rfl | rfl | rfl <;> dsimp only <;> first | exact ends h₁.2 | exact ends (mk _) | exact ends (wpAny_operating h₁.2) | (split <;> first | exact ends h₁.2 | exact ends (mk _))
theorem callWith_KA {K : Frag} {env : PySem.Env} {pos : Pos} {f : Value} {first : List Value} {Q : Value → Shared → Prop} {e : Expr} {rest : List Expr} {kws : List Keyword} (hk : keepIn K f = true) (hall : (backToKw pos (keywordEach kws env)).all (·.1.isSome) = true)
    (h : wpAny M A (spliced (backTo pos (starEach (e :: rest) env))) (fun vs s₁ => wpAny M A (evalAll ((backToKw pos (keywordEach kws env)).map (·.2)))
      (fun ks s₂ => K.In s₂.heap ∧ wpAny M A (call f (first ++ vs) (((backToKw pos (keywordEach kws env)).filterMap (·.1)).zip ks)) Q E s₂) E s₁) E s)
    (he : starEach (e :: rest) env = (false, eval e env) :: starEach rest env) : wpAny M A (callWith pos f first (backTo pos (starEach (e :: rest) env)) (backToKw pos (keywordEach kws env))) Q E s :=
  callWith_any (keeps_K hk) (PyProof.Rows.evalArgs_kw2 hall h he)
end
/-- the def runs -/
def runM (m : Fn) (n : Nat) (ds : List PV) : M PV := fun s => match m n ds s.sto with
  | .ok d st' => .ok d { s with sto := st' }
  | .exc e st' => .exc e { s with sto := st' }
  | .stk => .stk
/-- positional values, then the keywords' -/
def appA (i j : Nat) (ca cb : M (List PV)) : M (List PV) := bnd ca fun a => bnd cb fun b => if a.length = i ∧ b.length = j then ret (a ++ b) else stuck
/-- what a call of that form binds -/
abbrev KB (K : PySem.W.Frag) (fd : FuncData) (ps : List Str) (n : Nat) (ks : List Str) : Prop := KBn K fd ps n ks (fun us ws => us ++ ws) (fun us ws => us ++ ws)
/-- a def and how it is called -/
structure Ent (P : Program) (w : World) (K : PySem.W.Frag) (mg : Str → Option Value) (base : Heap) (k : Nat) (g : Addr) (np n : Nat) (ks : List Str) (m : Fn) : Prop where
  ex : ∃ fd ps, ps.length = np ∧ FnG P w K mg base (L2.CX P w) k g fd ps (spM K np m) ∧ KB K fd ps n ks
  len : ∀ n ds st, m n ds st ≠ .stk → ds.length = np
section
variable {Y : WX} {K : PySem.W.Frag} {C : Ctx} {W W' : Vw} {σ : L2.St} {H : Hp} {s : S} {Q : VK} {np n i j : Nat} {m : Fn} {ca cb : M (List PV)} {ds : List PV} {vs : List V}
theorem sp_run (hl : ∀ n ds st, m n ds st ≠ .stk → ds.length = np) (a : At K (C.wi Y) W s σ H) (r : Reps K W vs ds) (p : Pst K (C.wi Y) W σ (runM m n ds s) (fun d _ W' H' => ∀ v, Rep K W' v d → Q v H')) : spM K np m vs H Q (WE Y σ) := by
  unfold runM at p
  have len : ∀ {x : RR}, m n ds s.sto = x → x ≠ .stk → vs.length = np := fun {x} e z => by rw [r.length]; exact hl _ _ _ (by rw [e]; exact z)
  cases e : m n ds s.sto with
  | exc x st' =>
    simp only [e] at p
    refine ⟨len e (fun z => nomatch z), n, W, s.sto, ds, a.ok, r, ?_⟩
    rw [e]
    exact fun W' H' cls d l ok g r => p W' σ H' cls d l (a.call l ok g) r
  | stk => simp only [e] at p; exact p.elim
  | ok d st' =>
    simp only [e] at p
    refine ⟨len e (fun z => nomatch z), n, W, s.sto, ds, a.ok, r, ?_⟩
    rw [e]
    exact fun v W' H' l ok g r => p W' H' l (a.call l ok g) v r
/-- both parts of the arguments -/
theorem den_appA {α : Type} {f : List PV → M α} {P : α → S → Vw → Hp → Prop} {QL : List V → List V → Hp → Prop} (a : At K (C.wi Y) W s σ H) (p : Pst K (C.wi Y) W σ (bnd (appA i j ca cb) f s) P)
    (go : ∀ ds es s2 W2 H2, W.Le W2 → At K (C.wi Y) W2 s2 σ H2 → Pst K (C.wi Y) W2 σ (f (ds ++ es) s2) P → ∀ us ws, Reps K W2 us ds → Reps K W2 ws es → us.length = i → ws.length = j → QL us ws H2) :
    denA K Y ca σ H (fun us H1 => denA K Y cb σ H1 (fun ws H2 => QL us ws H2)) := by
  have p0 := Pst.bnd p
  unfold appA at p0
  refine ⟨C, W, s, a, (Pst.bnd p0).imp fun ds s1 W1 H1 l1 a1 p1 us ru => ⟨C, W1, s1, a1, (Pst.bnd p1).imp fun es s2 W2 H2 l2 a2 p2 ws rw' => ?_⟩⟩
  by_cases hc : ds.length = i ∧ es.length = j
  · rw [if_pos hc] at p2
    have p3 := p2 W2 H2 (Vw.Le.refl _) a2
    exact go ds es s2 W2 H2 (l1.trans l2) a2 p3 us ws (ru.mono l2) rw' (ru.length.trans hc.1) (rw'.length.trans hc.2)
  · rw [if_neg hc] at p2
    exact p2.elim
end
/-! ### f(e, .., k = v, ..) -/
section
variable {Y : WX} {X : Cx} {k : Nat} {f g C : Addr} {fd : FuncData} {ps ks : List Str} {sp : Sp} {x m : Str} {p pos apos : Pos} {e o : Expr} {es : List Expr} {kws : List Keyword} {ta : TE} {t tk : TA} {np n i : Nat} {mf : Fn} {ca cb : M (List PV)} {co : M PV}
def tCallG (X : Cx) (Y : WX) (n : Nat) (ks : List Str) (sp : Sp) (t tk : TA) : TE := fun σ H Q => t σ H fun vs H1 => tk σ H1 fun zs H2 => vs.length = n ∧ zs.length = ks.length ∧ sp (vs ++ zs) H2 Q (WE Y σ)
theorem pe_callKG (F : FnG X.prog X.w X.K X.mg X.base (L2.CX X.prog X.w) k f fd ps sp) (hgd : X.A.guards = some []) (hr : Room k X.A) (tY : Takes X Y) (hg : Gl X x) (hm : X.mg x = some (.ref f)) (hk : PySem.W.keepIn X.K (.ref f) = true) (hb : KB X.K fd ps n ks)
    (ha : PA X (e :: es) t) (hkw : PK X kws tk) (hall : (backToKw pos (keywordEach kws X.env)).all (·.1.isSome) = true := by rfl) (hks : (backToKw pos (keywordEach kws X.env)).filterMap (·.1) = ks := by rfl)
    (hdb : (x == ("__debug__" : Str)) = false := by decide) (he : starEach (e :: es) X.env = (false, eval e X.env) :: starEach es X.env := by rfl) :
    PE X (.Call (.Name x p) (e :: es) kws pos) (tCallG X Y n ks sp t tk) := by
  refine ⟨fun pins s σ H Q I h => wpAny_Call_Name_kw (ld_glob I hg hm ?_ hdb)⟩
  refine callWith_KA hk hall (thn (ha.run pos pins s σ H _ I h) ?_) he
  rintro us s1 ⟨vs, H1, I1, r, q⟩
  refine thn (hkw.run pos pins s1 σ H1 _ I1 q) ?_
  rintro ws s2 ⟨zs, H2, I2, rz, l1, l2, q2⟩
  rw [hks]
  exact ⟨I2.kIn, run_fnG F hgd hr (passAt tY σ) I2 (hb.to s2 us ws I2.kIn (r.length.symm.trans l1) (rz.length.symm.trans l2)) (hb.rel r rz) q2⟩
/-- o.m(e, .., k = v, ..), the class asked for its def -/
def tMethG (X : Cx) (Y : WX) (k : Nat) (m : Str) (np n : Nat) (ks : List Str) (ta : TE) (t tk : TA) : TE := fun σ H Q => ta σ H fun x H1 => ∃ a C dx fs g mf, x = .ref a ∧ H1 a = some (.ins C dx fs) ∧ fs.lookup m = none ∧ Cls X.K C ∧ Meth X.K C m g ∧ Ent X.prog X.w X.K X.mg X.base k g np (n + 1) ks mf ∧
  t σ H1 fun vs H2 => tk σ H2 fun zs H3 => vs.length = n ∧ zs.length = ks.length ∧ spM X.K np mf (x :: (vs ++ zs)) H3 Q (WE Y σ)
theorem pe_methKG {pl : Sem Bool} (he : PE X o ta) (hgd : X.A.guards = some []) (hr : Room k X.A) (tY : Takes X Y) (ha : PA X (e :: es) t) (hkw : PK X kws tk) (hall : (backToKw pos (keywordEach kws X.env)).all (·.1.isSome) = true := by rfl) (hks : (backToKw pos (keywordEach kws X.env)).filterMap (·.1) = ks := by rfl)
    (hst : starEach (e :: es) X.env = (false, eval e X.env) :: starEach es X.env := by rfl)
    (ht : eval (.Call (.Attribute o m apos) (e :: es) kws pos) X.env = (do
      let ov ← eval o X.env
      standAt apos.atName
      let (f, first) ← holding [ov] (getMethod ov m pl)
      callWith pos f first (backTo pos (starEach (e :: es) X.env)) (backToKw pos (keywordEach kws X.env))) := by rfl) :
    PE X (.Call (.Attribute o m apos) (e :: es) kws pos) (tMethG X Y k m np n ks ta t tk) := by
  refine ⟨fun pins s σ H Q I h => ?_⟩
  refine PySem.W.methodCall_KW (pl := pl) (thn (he.run pins s σ H _ I h) ?_) ht
  rintro u s1 ⟨x, H1, I1, rx, a, C, dx, fs, g, mf, ex, ea, l, c, hm, F, q⟩
  subst ex
  obtain rfl : u = Value.ref a := rx
  obtain ⟨fd, ps, hnp, G, hb⟩ := F.ex
  refine getmeth_ok I1 ea c hm l ?_
  refine callWith_KA (first := [.ref a]) hm.kp hall (thn (ha.run pos pins s1 σ H1 _ I1 q) ?_) hst
  rintro us s2 ⟨vs, H2, I2, r, q2⟩
  refine thn (hkw.run pos pins s2 σ H2 _ I2 q2) ?_
  rintro ws s3 ⟨zs, H3, I3, rz, l1, l2, q3⟩
  rw [hks]
  have ln : (Value.ref a :: us).length = n + 1 := by rw [List.length_cons, ← r.length, l1]
  have r' : Vals (V.ref a :: vs) (Value.ref a :: us) := .cons rfl r
  exact ⟨I3.kIn, run_fnG G hgd hr (passAt tY σ) I3 (hb.to s3 (Value.ref a :: us) ws I3.kIn ln (rz.length.symm.trans l2)) (hb.rel r' rz) q3⟩
end
/-! ### in short -/
/-- the classes' defs of that name: each with its class's name, and how it is called -/
structure TabOk (P : Program) (w : World) (K : PySem.W.Frag) (mg : Str → Option Value) (base : Heap) (k : Nat) (m : Str) (np n : Nat) (ks : List Str) (tab : List (Str × Fn)) : Prop where
  ok : ∀ c mf, tab.lookup c = some mf → ∃ C g, ClsAt K c C ∧ Cls K C ∧ Meth K C m g ∧ Ent P w K mg base k g np n ks mf
/-- o.m(..) -/
def methM (tab : List (Str × Fn)) (n : Nat) (m : Str) (co : M PV) (r : M (List PV)) : M PV := bnd co fun d s => match insOf s d with
  | some (c, ks, vs) => if (ks.zip vs).lookup m = none then (match tab.lookup c with
    | some f => bnd r (fun ds => runM f n (d :: ds)) s
    | none => .stk) else .stk
  | none => .stk
section
variable {Y : WX} {X : Cx} {k : Nat} {ks : List Str} {m x : Str} {np n i : Nat} {ca cb : M (List PV)} {co : M PV} {tab : List (Str × Fn)} {σ : L2.St} {H : Hp} {Q : VK} {mf : Fn}
theorem den_callK (hl : ∀ n ds st, mf n ds st ≠ .stk → ds.length = np) (h : den X.K Y (callM mf n (appA i ks.length ca cb)) σ H Q) : tCallG X Y i ks (spM X.K np mf) (denA X.K Y ca) (denA X.K Y cb) σ H Q := by
  obtain ⟨C, W, s, at', p⟩ := h
  refine den_appA at' (f := fun ds s => runM mf n ds s) p fun ds es s2 W2 H2 l2 a2 p2 us ws r1 r2 l1 l2' => ?_
  exact ⟨l1, l2', sp_run hl a2 (r1.append r2) p2⟩
theorem den_meth (T : TabOk X.prog X.w X.K X.mg X.base k m np (i + 1) ks tab) (h : den X.K Y (methM tab n m co (appA i ks.length ca cb)) σ H Q) : tMethG X Y k m np i ks (den X.K Y co) (denA X.K Y ca) (denA X.K Y cb) σ H Q := by
  obtain ⟨C, W, s, at', p⟩ := h
  refine ⟨C, W, s, at', (Pst.bnd p).imp fun d s1 W1 H1 l1 at1 p1 x rx => ?_⟩
  split at p1
  · rename_i c kk vv e
    split at p1
    · rename_i hno
      split at p1
      · rename_i mf hmf
        obtain ⟨a, Cc, dx, us, rfl, h1, h2, l, ru⟩ := insOf_rep at1 rx e
        obtain ⟨C2, g, k1, k2, k3, F⟩ := T.ok c mf hmf
        cases cls_uniq h1 k1
        refine ⟨a, _, dx, _, g, mf, rfl, h2, zip_none ru l hno, k2, k3, F, ?_⟩
        refine den_appA at1 (f := fun ds s => runM mf n (d :: ds) s) p1 fun ds es s2 W2 H2 l2 a2 p2 us ws r1 r2 l1 l2' => ?_
        exact ⟨l1, l2', sp_run F.len a2 (.cons (rx.mono l2) (r1.append r2)) p2⟩
      · exact p1.elim
    · exact p1.elim
  · exact p1.elim
end
end Dn
/-! Ob4: classes called, properties, instances called; the rules in short. -/
namespace Dn
open PySem L2 PySem.Spec PyProof.Rows
/-! ### C(e, .., k = v, ..) -/
theorem guards_under {A : Around} {C : Addr} {us : List Value} {kw : List (Str × Value)} (h : A.guards = some []) : (A.under (.builtin "type.__call__" ⟨.ref C :: us, kw⟩)).guards = some [] := by
  first | exact h | simpa [Around.under, Code.weight, Code.isCreation, Code.isGuard, Code.isCaller, Code.frames, Code.isFrame, guardIds] using h
section
variable {Y : WX} {X : Cx} {k : Nat} {f g C : Addr} {fd : FuncData} {ps ks : List Str} {sp : Sp} {x m : Str} {p pos apos : Pos} {e o : Expr} {es : List Expr} {kws : List Keyword} {ta : TE} {t tk : TA} {np n i : Nat} {mf : Fn} {ca cb : M (List PV)} {co : M PV} {σ : L2.St} {H : Hp} {Q : VK}
def tMakeG (X : Cx) (Y : WX) (C : Addr) (n : Nat) (ks : List Str) (np : Nat) (mf : Fn) (t tk : TA) : TE := fun σ H Q => t σ H fun vs H1 => tk σ H1 fun zs H2 => vs.length = n ∧ zs.length = ks.length ∧
  ∀ x dx, H2 x = none → H2 dx = none → dx ≠ x → spM X.K np mf (.ref x :: (vs ++ zs)) (upd (upd H2 dx (.own x)) x (.ins C dx [])) (fun v H3 => v = .non ∧ Q (.ref x) H3) (WE Y σ)
theorem run_makeG {pins : List (Addr × Obj)} {s : Shared} {us ws : List Value} {vs zs : List V} (M : Mk X.K C f) (F : Ent X.prog X.w X.K X.mg X.base k f np (n + 1) ks mf) (hgd : X.A.guards = some []) (hr : Room (k + 1) X.A) (tY : Takes X Y)
    (I : Inv X pins σ H s) (r : Vals vs us) (rz : Vals zs ws) (l1 : vs.length = n) (l2 : zs.length = ks.length)
    (h : ∀ x dx, H x = none → H dx = none → dx ≠ x → spM X.K np mf (.ref x :: (vs ++ zs)) (upd (upd H dx (.own x)) x (.ins C dx [])) (fun v H3 => v = .non ∧ Q (.ref x) H3) (WE Y σ)) :
    wpAny (model X.prog X.w) X.A (call (.ref C) us (ks.zip ws)) (EP X pins σ Q) X.xe s := by
  obtain ⟨fd, ps, hnp, G, hb⟩ := F.ex
  have n0 : H s.heap.objs.size = none := I.hok.fresh (Nat.le_refl _)
  have n1 : H (s.heap.objs.size + 1) = none := I.hok.fresh (Nat.le_succ _)
  have want := h (s.heap.objs.size + 1) s.heap.objs.size n1 n0 (Nat.ne_of_lt (Nat.lt_succ_self _))
  have J := Inv.made (C := C) I
  have rS : Vals (V.ref (s.heap.objs.size + 1) :: vs) (Value.ref (s.heap.objs.size + 1) :: us) := .cons rfl r
  have ln : (Value.ref (s.heap.objs.size + 1) :: us).length = n + 1 := by rw [List.length_cons, ← r.length, l1]
  have bd := hb.to _ (Value.ref (s.heap.objs.size + 1) :: us) ws J.kIn ln (rz.length.symm.trans l2)
  have go := G.run _ X.stack _ _ ⟨Value.ref (s.heap.objs.size + 1) :: us, ks.zip ws⟩ _ _ _ _ (guards_under hgd) (hr.make C us (ks.zip ws)) (J.env0.make C us (ks.zip ws)) bd (hb.rel rS rz) want
  refine wpAny_call (make_map (f := f) I.kIn M.makes M.init (beq_iff_eq.mp M.fn) ?_)
  refine codeAny_mono go fun res s' hq => ?_
  match res, hq with
  | .error e, hq => exact passAt tY σ pins _ _ e s' J hq
  | .ok (.ret u), hq =>
    obtain ⟨v, H', J', rv, ev, q'⟩ := J.after hq
    subst ev
    exact ⟨rv, V.ref (s.heap.objs.size + 1), H', J', rfl, q'⟩
  | .ok .next, hq => exact False.elim hq
  | .ok .brk, hq => exact False.elim hq
  | .ok .cont, hq => exact False.elim hq
theorem pe_makeG (M : Mk X.K C f) (F : Ent X.prog X.w X.K X.mg X.base k f np (n + 1) ks mf) (hgd : X.A.guards = some []) (hr : Room (k + 1) X.A) (tY : Takes X Y) (hg : Gl X x) (hm : X.mg x = some (.ref C)) (ha : PA X (e :: es) t) (hkw : PK X kws tk)
    (hall : (backToKw pos (keywordEach kws X.env)).all (·.1.isSome) = true := by rfl) (hks : (backToKw pos (keywordEach kws X.env)).filterMap (·.1) = ks := by rfl) (hdb : (x == ("__debug__" : Str)) = false := by decide)
    (he : starEach (e :: es) X.env = (false, eval e X.env) :: starEach es X.env := by rfl) :
    PE X (.Call (.Name x p) (e :: es) kws pos) (tMakeG X Y C n ks np mf t tk) := by
  refine ⟨fun pins s σ H Q I h => wpAny_Call_Name_kw (ld_glob I hg hm ?_ hdb)⟩
  refine callWith_KA M.kp hall (thn (ha.run pos pins s σ H _ I h) ?_) he
  rintro us s1 ⟨vs, H1, I1, r, q⟩
  refine thn (hkw.run pos pins s1 σ H1 _ I1 q) ?_
  rintro ws s2 ⟨zs, H2, I2, rz, l1, l2, q2⟩
  rw [hks]
  exact ⟨I2.kIn, run_makeG M F hgd hr tY I2 r rz l1 l2 q2⟩
end
/-- a class called: the def __init__ on a new instance, which is a value behind it -/
def makeM (c : Str) (mf : Fn) (n : Nat) (r : M (List PV)) : M PV := bnd r fun ds s => match mf n (.hnd s.sto.length :: ds) (s.sto ++ [.ins c [] [], .own s.sto.length]) with
  | .ok .non st' => (match st'[s.sto.length]?, st'[s.sto.length + 1]? with
    | some (.ins c' ks vs), some (.own j) => if j = s.sto.length then .ok (.obj c' ks vs) { s with sto := (st'.set s.sto.length .gone).set (s.sto.length + 1) .gone } else .stk
    | _, _ => .stk)
  | .exc e st' => .exc e { s with sto := st' }
  | _ => .stk
theorem At.hs_le {K : PySem.W.Frag} {C : Ctx} {W : Vw} {s : S} {σ : L2.St} {H : Hp} (h : At K C W s σ H) : C.hs0.length ≤ W.hs.length := by
  rcases Nat.lt_or_ge W.hs.length C.hs0.length with z | z
  · have := h.pre W.hs.length _ (List.getElem?_eq_getElem z)
    rw [List.getElem?_eq_none (Nat.le_refl _)] at this
    cases this
  · exact z
theorem den_make {X : Cx} {Y : WX} {Cc : Addr} {c : Str} {i np n : Nat} {ks : List Str} {mf : Fn} {ca cb : M (List PV)} {σ : L2.St} {H : Hp} {Q : VK} (hc : ClsAt X.K c Cc) (hl : ∀ n ds st, mf n ds st ≠ .stk → ds.length = np)
    (h : den X.K Y (makeM c mf n (appA i ks.length ca cb)) σ H Q) : tMakeG X Y Cc i ks np mf (denA X.K Y ca) (denA X.K Y cb) σ H Q := by
  obtain ⟨C, W, s, at', p⟩ := h
  refine den_appA at' p fun ds es s2 W2 H2 l2 a2 p2 us ws r1 r2 l1 l2' => ⟨l1, l2', fun x dx hx hd ne => ?_⟩
  obtain ⟨le, a3, rx⟩ := a2.newI hx hd ne hc
  have hlen : s2.sto.length = W2.hs.length := a2.ok.len
  have hkx : (W2.hs ++ [x, dx])[s2.sto.length]? = some x := by rw [hlen]; exact two_0
  have rep : Reps X.K ⟨W2.F, W2.hs ++ [x, dx]⟩ (.ref x :: (us ++ ws)) (.hnd s2.sto.length :: (ds ++ es)) := .cons rx ((r1.append r2).mono le)
  have len : ∀ {z : RR}, mf n (.hnd s2.sto.length :: (ds ++ es)) (s2.sto ++ [.ins c [] [], .own s2.sto.length]) = z → z ≠ .stk → (V.ref x :: (us ++ ws)).length = np := fun {z} e q => by rw [rep.length]; exact hl _ _ _ (by rw [e]; exact q)
  cases e : mf n (.hnd s2.sto.length :: (ds ++ es)) (s2.sto ++ [.ins c [] [], .own s2.sto.length]) with
  | stk => simp only [e] at p2; exact p2.elim
  | exc z st' =>
    simp only [e] at p2
    refine ⟨len e (fun z => nomatch z), n, _, _, _, a3.ok, rep, ?_⟩
    rw [e]
    exact fun W' H' cls d l ok g r => p2 W' σ H' cls d (le.trans l) (a3.call l ok g) r
  | ok d st' =>
    simp only [e] at p2
    cases d <;> try exact p2.elim
    refine ⟨len e (fun z => nomatch z), n, _, _, _, a3.ok, rep, ?_⟩
    rw [e]
    intro v W' H' l ok g rv
    cases rv
    refine ⟨rfl, ?_⟩
    have a4 := a3.call l ok g
    have hx' : W'.hs[s2.sto.length]? = some x := l.pre _ _ hkx
    dsimp only at p2
    split at p2
    · rename_i c' ks' vs' j e1 e2
      split at p2
      · rename_i hj
        subst hj
        obtain ⟨W5, l5, a5, r5⟩ := a4.done (by rw [hlen]; exact a2.hs_le) hx' e1 e2
        exact p2 W5 H' (le.trans (l.trans l5)) a5 _ r5
      · exact p2.elim
    · exact p2.elim
/-! ### properties -/
structure PropE (P : Program) (w : World) (K : PySem.W.Frag) (mg : Str → Option Value) (base : Heap) (k : Nat) (f : Str) (C : Addr) (mf : Fn) : Prop where
  ex : ∃ p g, PropOf K C f p g ∧ Ent P w K mg base k g 1 1 [] mf
def tPropG (X : Cx) (k : Nat) (f : Str) (ta : TE) : TE := fun σ H Q => ta σ H fun x H1 => ∃ a C dx fs mf, x = .ref a ∧ H1 a = some (.ins C dx fs) ∧ Cls X.K C ∧ PropE X.prog X.w X.K X.mg X.base k f C mf ∧ spM X.K 1 mf [.ref a] H1 Q (fun _ _ _ => False)
theorem pe_propG {X : Cx} {k : Nat} {f : Str} {e : Expr} {pos : Pos} {ta : TE} (he : PE X e ta) (hgd : X.A.guards = some []) (hr : Room (k + 1) X.A) (hab : attributeBase e f X.env (eval e X.env) = eval e X.env := by rfl) : PE X (.Attribute e f pos) (tPropG X k f ta) := by
  refine ⟨fun pins s σ H Q I h => attr_of hab (thn (he.run pins s σ H _ I h) ?_)⟩
  rintro u s1 ⟨x, H1, I1, rx, a, C, dx, fs, mf, ex, ea, c, P, q⟩
  subst ex
  obtain rfl : u = Value.ref a := rx
  obtain ⟨p, g, hp, F⟩ := P.ex
  obtain ⟨fd, ps, hnp, G, hb⟩ := F.ex
  obtain ⟨mA, O, _⟩ := ins_get I1.hok ea
  obtain ⟨od, J, _⟩ := O.look
  obtain ⟨rest, hrec⟩ := hp.rec_
  have I2 := I1.tok (s1.toks + 1)
  have hc : (PySem.W.clsIn X.K C).isSome = true := by
    obtain ⟨cd, hc, _⟩ := PySem.W.any_some c.hd
    rw [hc]
    rfl
  have bd := hb.to { s1 with toks := s1.toks + 1 } [.ref a] [] I2.kIn rfl rfl
  have go := G.run X.A.in1 X.stack { s1 with toks := s1.toks + 1 } H1 _ _ _ Q (fun _ _ _ => False) hgd hr.in1 I2.env0.in1 bd (hb.rel (vs := [V.ref a]) (zs := []) (.cons rfl .nil) .nil) q
  have gp := PySem.W.plainGet_of (c.get f)
  refine PySem.W.get_bind I1.kIn J gp.1 (PySem.W.findObj_data hc hp.at_ hp.get hp.tak) gp.2 (wpAny_call (PySem.W.prop_get (s := { s1 with toks := s1.toks + 1 }) I1.kIn hrec (codeAny_mono go fun res s' hq => ?_)))
  match res, hq with
  | .error er, hq =>
    obtain ⟨_, _, _, _, _, _, _, _, _, _, _, _, w⟩ := hq
    exact w.elim
  | .ok (.ret u), hq =>
    obtain ⟨v, H', I3, rv, q3⟩ := I2.after hq
    show wpAny _ _ (handedOut u) _ _ _
    rw [PySem.W.handedOut_of (handed_of rv)]
    exact wpAny_pure ⟨v, H', I3, rv, q3⟩
  | .ok .next, hq => exact False.elim hq
  | .ok .brk, hq => exact False.elim hq
  | .ok .cont, hq => exact False.elim hq
structure PropTab (P : Program) (w : World) (K : PySem.W.Frag) (mg : Str → Option Value) (base : Heap) (k : Nat) (f : Str) (tab : List (Str × Fn)) : Prop where
  ok : ∀ c mf, tab.lookup c = some mf → ∃ C, ClsAt K c C ∧ Cls K C ∧ PropE P w K mg base k f C mf
/-- e.f, a property: it lets nothing out -/
def propM (tab : List (Str × Fn)) (n : Nat) (d : PV) : M PV := fun s => match insOf s d with
  | some (c, _, _) => (match tab.lookup c with
    | some f => (match f n [d] s.sto with
      | .ok r st' => .ok r { s with sto := st' }
      | _ => .stk)
    | none => .stk)
  | none => .stk
theorem den_prop {X : Cx} {Y : WX} {k : Nat} {f : Str} {tab : List (Str × Fn)} {n : Nat} {co : M PV} {σ : L2.St} {H : Hp} {Q : VK} (T : PropTab X.prog X.w X.K X.mg X.base k f tab) (h : den X.K Y (bnd co (propM tab n)) σ H Q) : tPropG X k f (den X.K Y co) σ H Q := by
  obtain ⟨C, W, s, at', p⟩ := h
  refine ⟨C, W, s, at', (Pst.bnd p).imp fun d s1 W1 H1 l1 at1 p1 x rx => ?_⟩
  unfold propM at p1
  split at p1
  · rename_i c kk vv e
    split at p1
    · rename_i mf hmf
      obtain ⟨a, Cc, dx, us, rfl, h1, h2, l, ru⟩ := insOf_rep at1 rx e
      obtain ⟨C2, k1, k2, P⟩ := T.ok c mf hmf
      cases cls_uniq h1 k1
      split at p1
      · rename_i r st' er
        refine ⟨a, _, dx, _, mf, rfl, h2, k2, P, rfl, n, W1, s1.sto, [d], at1.ok, .cons rx .nil, ?_⟩
        rw [er]
        exact fun v W' H' l ok g rv => p1 W' H' l (at1.call l ok g) v rv
      · exact p1.elim
    · exact p1.elim
  · exact p1.elim
end Dn
/-! Ob5: the rules of Ob3, Ob4 in short; keywords; stars; types; chains. -/
namespace Dn
open PySem L2 PySem.Spec PyProof.Rows
theorem FnG.up {P : Program} {w : World} {K : PySem.W.Frag} {mg : Str → Option Value} {base : Heap} {j k : Nat} {g : Addr} {np n : Nat} {ks : List Str} {m : Fn} (F : Ent P w K mg base j g np n ks m) (h : j ≤ k) : Ent P w K mg base k g np n ks m := by
  obtain ⟨fd, ps, e, G, b⟩ := F.ex
  exact ⟨⟨fd, ps, e, G.mono h, b⟩, F.len⟩
/-- a def called by name with keywords -/
structure DfK (P : Program) (w : World) (K : PySem.W.Frag) (mg : Str → Option Value) (base : Heap) (k : Nat) (x : Str) (np n : Nat) (ks : List Str) (m : Fn) : Prop where
  ex : ∃ f, mg x = some (.ref f) ∧ PySem.W.keepIn K (.ref f) = true ∧ Ent P w K mg base k f np n ks m
/-- a class called -/
structure MkK (P : Program) (w : World) (K : PySem.W.Frag) (mg : Str → Option Value) (base : Heap) (k : Nat) (c : Str) (np n : Nat) (ks : List Str) (m : Fn) : Prop where
  ex : ∃ C f, ClsAt K c C ∧ mg c = some (.ref C) ∧ Mk K C f ∧ Ent P w K mg base k f np (n + 1) ks m
section
variable {Y : WX} {X : Cx} {k j : Nat} {ks : List Str} {x m c : Str} {p pos apos kp : Pos} {e o : Expr} {es : List Expr} {kws : List Keyword} {np n i : Nat} {mf : Fn} {ca cb : M (List PV)} {co ce : M PV} {tab : List (Str × Fn)}
theorem akN : PK X [] (denA X.K Y argN) := ⟨fun pos pins s σ H Q I h => pk_nil.run pos pins s σ H Q I (den_argN h)⟩
theorem akC {nm : Option Str} (he : PE X e (den X.K Y ce)) (hr : PK X kws (denA X.K Y cb)) : PK X (⟨nm, e, kp⟩ :: kws) (denA X.K Y (argC ce cb)) := ⟨fun pos pins s σ H Q I h => (pk_cons he hr).run pos pins s σ H Q I (den_argC h)⟩
theorem xcallK (n : Nat) (D : DfK X.prog X.w X.K X.mg X.base j x np i ks mf) (hgd : X.A.guards = some []) (hr : Room k X.A) (tY : Takes X Y) (hjk : j ≤ k) (ha : PA X (e :: es) (denA X.K Y ca)) (hkw : PK X kws (denA X.K Y cb)) (hg : Gl X x := by rfl) (hall : (backToKw pos (keywordEach kws X.env)).all (·.1.isSome) = true := by rfl) (hks : (backToKw pos (keywordEach kws X.env)).filterMap (·.1) = ks := by rfl)
    (hdb : (x == ("__debug__" : Str)) = false := by decide) (he : starEach (e :: es) X.env = (false, eval e X.env) :: starEach es X.env := by rfl) : PE X (.Call (.Name x p) (e :: es) kws pos) (den X.K Y (callM mf n (appA i ks.length ca cb))) := by
  obtain ⟨f, hm, hk, F⟩ := D.ex
  obtain ⟨fd, ps, _, G, b⟩ := F.ex
  exact pe_imp (pe_callKG G hgd (hr.mono hjk) tY hg hm hk b ha hkw hall hks hdb he) fun _ _ _ => den_callK F.len
theorem xmake (n : Nat) (D : MkK X.prog X.w X.K X.mg X.base j c np i ks mf) (hgd : X.A.guards = some []) (hr : Room k X.A) (tY : Takes X Y) (hjk : j + 1 ≤ k) (ha : PA X (e :: es) (denA X.K Y ca)) (hkw : PK X kws (denA X.K Y cb)) (hg : Gl X c := by rfl) (hall : (backToKw pos (keywordEach kws X.env)).all (·.1.isSome) = true := by rfl) (hks : (backToKw pos (keywordEach kws X.env)).filterMap (·.1) = ks := by rfl)
    (hdb : (c == ("__debug__" : Str)) = false := by decide) (he : starEach (e :: es) X.env = (false, eval e X.env) :: starEach es X.env := by rfl) : PE X (.Call (.Name c p) (e :: es) kws pos) (den X.K Y (makeM c mf n (appA i ks.length ca cb))) := by
  obtain ⟨C, f, hc, hm, M, F⟩ := D.ex
  exact pe_imp (pe_makeG M F hgd (hr.mono hjk) tY hg hm ha hkw hall hks hdb he) fun _ _ _ => den_make hc F.len
theorem xmeth {pl : Sem Bool} (n : Nat) (T : TabOk X.prog X.w X.K X.mg X.base j m np (i + 1) ks tab) (hgd : X.A.guards = some []) (hr : Room k X.A) (tY : Takes X Y) (hjk : j ≤ k) (ho : PE X o (den X.K Y co)) (ha : PA X (e :: es) (denA X.K Y ca)) (hkw : PK X kws (denA X.K Y cb)) (hall : (backToKw pos (keywordEach kws X.env)).all (·.1.isSome) = true := by rfl) (hks : (backToKw pos (keywordEach kws X.env)).filterMap (·.1) = ks := by rfl)
    (hst : starEach (e :: es) X.env = (false, eval e X.env) :: starEach es X.env := by rfl)
    (ht : eval (.Call (.Attribute o m apos) (e :: es) kws pos) X.env = (do
      let ov ← eval o X.env
      standAt apos.atName
      let (f, first) ← holding [ov] (getMethod ov m pl)
      callWith pos f first (backTo pos (starEach (e :: es) X.env)) (backToKw pos (keywordEach kws X.env))) := by rfl) :
    PE X (.Call (.Attribute o m apos) (e :: es) kws pos) (den X.K Y (methM tab n m co (appA i ks.length ca cb))) := pe_imp (pe_methKG ho hgd (hr.mono hjk) tY ha hkw hall hks hst ht) fun _ _ _ => den_meth T
theorem xprop (n : Nat) (T : PropTab X.prog X.w X.K X.mg X.base j m tab) (hgd : X.A.guards = some []) (hr : Room k X.A) (hjk : j + 1 ≤ k) (he : PE X e (den X.K Y ce)) (hab : attributeBase e m X.env (eval e X.env) = eval e X.env := by rfl) : PE X (.Attribute e m pos) (den X.K Y (bnd ce (propM tab n))) := pe_imp (pe_propG he hgd (hr.mono hjk) hab) fun _ _ _ => den_prop T
end
end Dn
/-! Ob6: stars, types, chains, a module's constants. -/
namespace Dn
open PySem L2 StX PySem.Spec PyProof.Rows
section
variable {Y : WX} {K : PySem.W.Frag} {C : Ctx} {W W' : Vw} {σ : L2.St} {H : Hp} {s : S} {Q : VK} {ca cb cc : M PV} {cr : M (List PV)}
/-- *e in an argument list -/
def argS (ca : M PV) (r : M (List PV)) : M (List PV) := bnd ca fun d => match d with
  | .tup xs => bnd r fun ys => ret (xs ++ ys)
  | .lst xs => bnd r fun ys => ret (xs ++ ys)
  | _ => stuck
theorem den_argS {QL : List V → Hp → Prop} (h : denA K Y (argS ca cr) σ H QL) : tStar K (den K Y ca) (denA K Y cr) σ H QL := by
  obtain ⟨C, W, s, at', p⟩ := h
  refine ⟨C, W, s, at', (Pst.bnd p).imp fun d s1 W1 H1 l1 at1 p1 v rv => ?_⟩
  cases d <;> try exact p1.elim
  · rename_i xs
    cases rv with
    | @tup a vs _ hq rs =>
      refine ⟨a, vs, rfl, .inl (same_t at1.ok.sub hq), C, W1, s1, at1, (Pst.bnd p1).imp fun ys s2 W2 H2 l2 at2 p2 ws rw' => ?_⟩
      exact p2 W2 H2 (Vw.Le.refl _) at2 _ ((rs.mono l2).append rw')
  · rename_i xs
    cases rv with
    | @lst a vs _ hq rs =>
      refine ⟨a, vs, rfl, .inr (SqL.of (at1.ok.sub _ _ hq)), C, W1, s1, at1, (Pst.bnd p1).imp fun ys s2 W2 H2 l2 at2 p2 ws rw' => ?_⟩
      exact p2 W2 H2 (Vw.Le.refl _) at2 _ ((rs.mono l2).append rw')
/-- min, max of two ints -/
def maxP : PV → PV → Option PV
  | .int i, .int j => some (.int (if j > i then j else i))
  | _, _ => none
def minP : PV → PV → Option PV
  | .int i, .int j => some (.int (if j < i then j else i))
  | _, _ => none
abbrev opMax (a b : PV) : M PV := lft (maxP a b)
abbrev opMin (a b : PV) : M PV := lft (minP a b)
theorem bin_max : Bin (fun x y H Q => ∃ i j, [x, y] = [.int i, .int j] ∧ Q (.int (if j > i then j else i)) H) K opMax := by
  intro C W s σ H v w a b Q at' ra rb p
  obtain ⟨d, e, q⟩ := p.lft'
  have q0 := q W H (Vw.Le.refl W) at'
  unfold maxP at e
  split at e
  · cases e
    cases ra.int
    cases rb.int
    exact ⟨_, _, rfl, q0 _ (.int _)⟩
  · cases e
theorem bin_min : Bin (fun x y H Q => ∃ i j, [x, y] = [.int i, .int j] ∧ Q (.int (if j < i then j else i)) H) K opMin := by
  intro C W s σ H v w a b Q at' ra rb p
  obtain ⟨d, e, q⟩ := p.lft'
  have q0 := q W H (Vw.Le.refl W) at'
  unfold minP at e
  split at e
  · cases e
    cases ra.int
    cases rb.int
    exact ⟨_, _, rfl, q0 _ (.int _)⟩
  · cases e
/-- a <= b <= c -/
def chainM (f g : PV → PV → M PV) (ca cb cc : M PV) : M PV := bnd ca fun a => bnd cb fun b => bnd (f a b) fun d => match d with
  | .bl true => bnd cc fun c => g b c
  | .bl false => ret (.bl false)
  | _ => stuck
theorem den_chain {f g : PV → PV → M PV} {r r' : V → V → Hp → VK → Prop} (hf : Bin r K f) (hg : Bin r' K g) (h : den K Y (chainM f g ca cb cc) σ H Q) : tChain r r' (den K Y ca) (den K Y cb) (den K Y cc) σ H Q := by
  obtain ⟨C, W, s, at', p⟩ := h
  refine ⟨C, W, s, at', (Pst.bnd p).imp fun a s1 W1 H1 l1 at1 p1 v rv => ⟨C, W1, s1, at1, (Pst.bnd p1).imp fun b s2 W2 H2 l2 at2 p2 w rw' => ?_⟩⟩
  refine hf _ W2 s2 σ H2 v w a b _ at2 (.rep (rv.mono l2)) (.rep rw') ((Pst.bnd p2).imp fun d s3 W3 H3 l3 at3 p3 z rz => ?_)
  cases d <;> try exact p3.elim
  rename_i bb
  cases rz
  refine ⟨bb, rfl, ?_⟩
  cases bb with
  | true =>
    rw [if_pos rfl]
    exact ⟨C, W3, s3, at3, (Pst.bnd p3).imp fun c s4 W4 H4 l4 at4 p4 y ry => hg _ W4 s4 σ H4 w y b c _ at4 (.rep (rw'.mono (l3.trans l4))) (.rep ry) p4⟩
  | false =>
    rw [if_neg (fun z => nomatch z)]
    exact p3 W3 H3 (Vw.Le.refl _) at3 _ (.bl false)
/-- the name of a value's built-in type -/
def tyP : PV → Option String
  | .non => some "NoneType"
  | .bl _ => some "bool"
  | .int _ => some "int"
  | .str _ => some "str"
  | .tup _ => some "tuple"
  | .lst _ => some "list"
  | .scr _ => some "list"
  | .dic _ => some "dict"
  | _ => none
def isiP (nm : String) (d : PV) : Option PV := (tyP d).bind fun t => (kitB t nm).map PV.bl
abbrev fIsi (nm : String) (d : PV) : M PV := lft (isiP nm d)
theorem ty_rep {d : PV} {v : V} {t : String} (a : At K C W s σ H) (r : Rep K W v d) (e : tyP d = some t) : TyX K H v (.type t) := by
  cases r with
  | non => cases e; exact .base .non
  | bl b => cases e; exact .base (.bl b)
  | int i => cases e; exact .base (.int i)
  | str x => cases e; exact .base (.str x)
  | tup hq _ =>
    cases e
    rcases same_t a.ok.sub hq with (h | ⟨o, h⟩) | ⟨o, its, n, h1, h2, h3, _⟩
    · exact .base (.tup h)
    · exact .fTuple h
    · exact .kTuple h1 h2
  | lst hq _ => cases e; exact .base (.lst (a.ok.sub _ _ hq))
  | scr hq =>
    cases e
    rcases a.ok.sub.seq hq with (h | ⟨o, h⟩) | ⟨o, its, n, h1, h2, _⟩
    · exact .base (.lst h)
    · exact .base (.frz h)
    · exact .kList h1 h2
  | hnd _ =>
    have e : (none : Option String) = some t := e
    cases e
  | obj =>
    have e : (none : Option String) = some t := e
    cases e
  | exn =>
    have e : (none : Option String) = some t := e
    cases e
  | dic h => cases e; exact .base (.dK (a.ok.sub _ _ h))
theorem den_isi {nm : String} (h : den K Y (bnd ca (fIsi nm)) σ H Q) : tCB (rIsi K) (tCons (den K Y ca) (tCons (tC (.ty nm)) tNil)) σ H Q := by
  obtain ⟨C, W, s, at', p⟩ := h
  refine ⟨C, W, s, at', (Pst.bnd p).imp fun d s1 W1 H1 l1 at1 p1 v rv => ?_⟩
  obtain ⟨z, e, q⟩ := p1.lft'
  have q0 := q W1 H1 (Vw.Le.refl W1) at1
  unfold isiP at e
  obtain ⟨t, e1, e2⟩ := Option.bind_eq_some_iff.mp e
  obtain ⟨b, e3, e4⟩ := Option.map_eq_some_iff.mp e2
  subst e4
  exact ⟨v, .ty nm, .type t, .type nm, b, rfl, .ty nm, ty_rep at1 rv e1, kit_ty e3, q0 _ (.bl b)⟩
end
section
variable {Y : WX} {X : Cx} {a b c e : Expr} {es : List Expr} {ca cb cc : M PV} {cr : M (List PV)} {pos p px : Pos}
theorem acS (ha : PE X e (den X.K Y ca)) (hr : PA X es (denA X.K Y cr)) (hs : starEach (.Starred e p :: es) X.env = (true, eval e X.env) :: starEach es X.env := by rfl) : PA X (.Starred e p :: es) (denA X.K Y (argS ca cr)) := pa_imp (pa_star ha hr hs) fun _ _ _ => den_argS
theorem xmax2 (hc : X.calm = true) (hm : X.mg "max" = none) (ha : PE X a (den X.K Y ca)) (hb : PE X b (den X.K Y cb)) (hg : Gl X "max" := by rfl) (h1 : starEach [a, b] X.env = (false, eval a X.env) :: starEach [b] X.env := by rfl) (h2 : starEach [b] X.env = (false, eval b X.env) :: starEach [] X.env := by rfl) (hpl : (backTo pos (starEach [b] X.env)).any (·.1) = false := by rfl) :
    PE X (.Call (.Name "max" px) [a, b] [] pos) (den X.K Y (bin ca cb opMax)) := pe_imp (pe_callB (call_max2 hc) hg hm PyProof.Rows.Boot.«max» (pa_cons ha (pa_cons hb pa_nil h2) h1) (by decide) (by decide) h1 hpl) fun _ _ _ h => den_bin bin_max h
theorem xmin2 (hc : X.calm = true) (hm : X.mg "min" = none) (ha : PE X a (den X.K Y ca)) (hb : PE X b (den X.K Y cb)) (hg : Gl X "min" := by rfl) (h1 : starEach [a, b] X.env = (false, eval a X.env) :: starEach [b] X.env := by rfl) (h2 : starEach [b] X.env = (false, eval b X.env) :: starEach [] X.env := by rfl) (hpl : (backTo pos (starEach [b] X.env)).any (·.1) = false := by rfl) :
    PE X (.Call (.Name "min" px) [a, b] [] pos) (den X.K Y (bin ca cb opMin)) := pe_imp (pe_callB (call_min2 hc) hg hm PyProof.Rows.Boot.«min» (pa_cons ha (pa_cons hb pa_nil h2) h1) (by decide) (by decide) h1 hpl) fun _ _ _ h => den_bin bin_min h
theorem xchain {op op' : CmpOp} {f g : PV → PV → M PV} (hf : CmpOk X op f) (hg : CmpOk X op' g) (ha : PE X a (den X.K Y ca)) (hb : PE X b (den X.K Y cb)) (hc : PE X c (den X.K Y cc)) (hm : lastMarks [op, op'] [b, c] = false := by with_unfolding_all rfl) : PE X (.Compare a [op, op'] [b, c] pos) (den X.K Y (chainM f g ca cb cc)) := by
  obtain ⟨r, h1, h2⟩ := hf.ok
  obtain ⟨r', h3, h4⟩ := hg.ok
  exact pe_imp (pe_chain h1 h3 ha hb hc hm) fun _ _ _ => den_chain h2 h4
theorem xisi {x : Str} {nm : String} (hm : X.mg "isinstance" = none) (hx : X.mg x = none) (hv : bootBuiltins x = some (.type nm)) (ha : PE X a (den X.K Y ca)) (hn : x ≠ "__name__" := by decide) (hd : (x == ("__debug__" : Str)) = false := by decide) (hg : Gl X "isinstance" := by rfl) (hgx : Gl X x := by rfl)
    (h1 : starEach [a, .Name x p] X.env = (false, eval a X.env) :: starEach [.Name x p] X.env := by rfl) (h2 : starEach [.Name x p] X.env = (false, eval (.Name x p) X.env) :: starEach [] X.env := by rfl) (hpl : (backTo pos (starEach [.Name x p] X.env)).any (·.1) = false := by rfl) :
    PE X (.Call (.Name "isinstance" px) [a, .Name x p] [] pos) (den X.K Y (bnd ca (fIsi nm))) := pe_imp (pe_callB call_isi hg hm PyProof.Rows.Boot.«isinstance» (pa_cons ha (pa_cons (pe_bltn hgx hx hv (show RelV (.ty nm) (.type nm) from rfl) hn hd) pa_nil h2) h1) (by decide) (by decide) h1 hpl) fun _ _ _ => den_isi
/-- a module's constant: an int, a text -/
theorem xgI {x : Str} {i : Int} {t : Tok} (hm : X.mg x = some (.int i t)) (hg : Gl X x := by rfl) (hd : (x == ("__debug__" : Str)) = false := by decide) : PE X (.Name x pos) (den X.K Y (ret (.int i))) := pe_imp (pe_glob hg hm (show RelV (.int i) (.int i t) from ⟨t, rfl⟩) hd) fun σ H Q h => by
  obtain ⟨C, W, s, at', p⟩ := h
  exact p W H (Vw.Le.refl _) at' _ (.int i)
theorem xgS {x y : Str} {t : Tok} (hm : X.mg x = some (.str y t)) (hg : Gl X x := by rfl) (hd : (x == ("__debug__" : Str)) = false := by decide) : PE X (.Name x pos) (den X.K Y (ret (.str y))) := pe_imp (pe_glob hg hm (show RelV (.str y) (.str y t) from ⟨t, rfl⟩) hd) fun σ H Q h => by
  obtain ⟨C, W, s, at', p⟩ := h
  exact p W H (Vw.Le.refl _) at' _ (.str y)
end
end Dn
/-! Ob7: super(): defs of a class that ask the class above, in their first statement. -/
namespace Dn
open PySem L2 ClX PySem.Spec PyProof.Rows
theorem run_codeG {X : Cx} {CX : CXT} {k : Nat} {f : Addr} {fd : FuncData} {ps : List Str} {sp : Sp} {E : XK} {pins : List (Addr × Obj)} {σ : L2.St} {H : Hp} {s : Shared} {Q : VK} {us zs : List Value} {kw : List (Str × Value)} {vs : List V} (F : FnG X.prog X.w X.K X.mg X.base CX k f fd ps sp) (hgd : X.A.guards = some []) (hr : Room k X.A) (hx : PassesAt CX X σ E)
    (I : Inv X pins σ H s) (hb : BindsTo s fd ⟨us, kw⟩ (ps.zip zs)) (r : Vals vs zs) (h : sp vs H Q E) : codeAny (model X.prog X.w) X.A (.call (.ref f) ⟨us, kw⟩) (fun r s' => match r with
      | .ok (.ret v) => EP X pins σ Q v s'
      | .ok _ => False
      | .error e => X.xe e s') s := by
  refine codeAny_mono (F.run X.A X.stack s H ⟨us, kw⟩ zs vs Q E hgd hr I.env0 hb r h) fun res s' hq => ?_
  match res, hq with
  | .error e, hq => exact hx pins H s e s' I hq
  | .ok (.ret u), hq => exact I.after hq
  | .ok .next, hq => exact False.elim hq
  | .ok .brk, hq => exact False.elim hq
  | .ok .cont, hq => exact False.elim hq
/-- where super() stands: the def at f of the class at D, self its first parameter -/
structure SupX (X : Cx) (slf : Str) (D : Addr) : Prop where
  ks : X.env.kindOf "super" = some .globalImplicit
  kc : X.env.kindOf "__class__" = some .free
  sl : X.env.kindOf slf = some .local
  n0 : X.N[0]? = some slf
  sup : X.mg "super" = none
  fn : ∃ (f : Addr) (oc : Value) (od : Option Addr) (fd : FuncData) (osl : Array (Option Value)) (ar : Arg), X.env.func = some f ∧ X.K.lookup f = some ⟨oc, od, .func fd, osl⟩ ∧ (fd.params.posonlyargs ++ fd.params.args).head? = some ar ∧ ar.arg = slf
  code : ∃ (cda : Addr) (oc : Value) (od : Option Addr) (vs : Array Value) (osl : Array (Option Value)) (file : Str) (tf : Tok), X.env.code = .ref cda ∧ X.K.lookup cda = some ⟨oc, od, .fields vs, osl⟩ ∧ vs[2]? = some (.str file tf) ∧ ((X.prog.main.file : Str) == file) = true
  top : (X.prog.main.scope.names.lookup ("super" : Str)).isSome = false
  cell : ∃ (cc : Addr) (oc : Value) (od : Option Addr) (osl : Array (Option Value)), X.env.cells.lookup ("__class__" : Str) = some cc ∧ X.K.lookup cc = some ⟨oc, od, .cell (some (.ref D)), osl⟩
  cls : ∃ cd, PySem.W.clsIn X.K D = some cd
/-- what an instance's class must have: above the class at D, the name is the def at g -/
structure SupC (K : PySem.W.Frag) (C D : Addr) (m : Str) (g : Addr) : Prop where
  sub : PySem.W.mroIn K C (.ref D) = some true
  at_ : PySem.W.ks_superIn K C D m = some (some (.ref g))
  ty : PySem.W.typeIn K (.ref g) = some (.type "function")
  fi : PySem.W.fnIn K g = true
  opq : PySem.W.nsIn K cStatics "thirdparty.any" = some none
section
variable {Y : WX} {X : Cx} {k np n : Nat} {ks : List Str} {slf m : Str} {D : Addr} {body : List Stmt} {p0 p1 apos pos : Pos} {e : Expr} {es : List Expr} {kws : List Keyword} {t tk : TA} {pins : List (Addr × Obj)} {σ : L2.St} {H : Hp} {s : Shared} {Q : VK}
/-- the object that super() gives, then its method: a bound one, pinned -/
theorem sup_base {a C dx : Addr} {fs : List (Str × V)} {whole : Sem Value} {R : Value → Shared → Prop} (S : SupX X slf D) (I : Inv X pins σ H s) (h0 : σ[0]? = some (some (.ref a))) (ha : H a = some (.ins C dx fs)) (hsub : PySem.W.mroIn X.K C (.ref D) = some true) (hm : (m == ("__class__" : Str)) = false)
    (h : ∀ so h', (∀ b o, s.heap.get? b = some o → h'.get? b = some o) → h'.get? so = some (PySem.W.ks_superObj D a C) → R (.ref so) { s with heap := h' }) :
    _root_.PySem.wpAt (model X.prog X.w) X.A (.func body X.env) (attributeBase (.Call (.Name "super" p0) [] [] p1) m X.env whole) R X.xe s := by
  obtain ⟨f, oc, od, fd, osl, ar, e1, e2, e3, e4⟩ := S.fn
  obtain ⟨cda, occ, odc, vs, oslc, file, tf, c1, c2, c3, c4⟩ := S.code
  obtain ⟨cc, oce, ode, osle, d1, d2⟩ := S.cell
  obtain ⟨cd, hD⟩ := S.cls
  have KX := I.kIn
  obtain ⟨oD, hD1, hD2⟩ : ∃ oD, s.heap.get? D = some oD ∧ oD.data = .cls cd := by
    unfold PySem.W.clsIn at hD
    split at hD
    · rename_i q1 q2 q3 q4 ho
      cases hD
      exact ⟨_, KX _ _ ho, rfl⟩
    · cases hD
  obtain ⟨mA, O, _⟩ := ins_get I.hok ha
  obtain ⟨oi, J, _⟩ := O.look
  obtain ⟨ml, hn, hlk⟩ := id I.loc
  obtain ⟨u, ru, hu⟩ := hlk 0 slf _ S.n0 h0 (.inl S.sl)
  obtain rfl : u = Value.ref a := ru
  have hv : ml slf = some (.ref a) := by
    rcases hu with ⟨_, hu⟩ | ⟨z, _⟩
    · exact hu
    · rw [S.sl] at z
      rcases z with z | z <;> cases z
  obtain ⟨mb, b1, b2⟩ := I.mod.blt
  refine PySem.ks_wpAt_super_base (env := X.env) S.ks S.kc hm e1 (KX _ _ e2) rfl e3 c1 (KX _ _ c2) rfl c3 c4 S.top ?_
  refine PySem.W.ks_loadName_global I.ok.kind S.ks (Calls.loadGlobal_builtin (by rw [I.ok.glob]; exact I.mod.glob.keeps I.bk) S.sup (by rw [I.ok.blt]; exact b1.keeps I.bk) ((b2 "super" (by decide)).trans PyProof.Rows.Boot.«super») ⟨rfl, ?_⟩)
  refine wpAny_loadName_free I.ok.kind S.kc d1 ⟨_, KX _ _ d2, rfl⟩ ?_
  rw [e4]
  refine wpAny_loadName_local I.ok.kind S.sl hn hv ?_
  obtain ⟨hh, gg, dd, tt, os⟩ := s
  refine PySem.ks_wpAny_isType_cls hD1 hD2 ⟨rfl, ?_⟩
  refine PySem.ks_wpAny_call_super hD1 hD2 J.at_ J.cls (fun c z => ?_) (PySem.W.looks_mroIn KX hsub) (fun h' q1 q2 => ?_)
  · have := J.no
    unfold PySem.W.notCls at this
    rw [z] at this
    exact Bool.noConfusion this
  · exact h _ h' q2 q1
/-- super().m(e, .., k = v, ..) -/
def tSupG (X : Cx) (Y : WX) (k : Nat) (D : Addr) (m : Str) (np n : Nat) (ks : List Str) (t tk : TA) : TE := fun σ H Q => ∃ a C dx fs g mf, σ[0]? = some (some (.ref a)) ∧ H a = some (.ins C dx fs) ∧ SupC X.K C D m g ∧ Ent X.prog X.w X.K X.mg X.base k g np (n + 1) ks mf ∧
  t σ H fun vs H1 => tk σ H1 fun zs H2 => vs.length = n ∧ zs.length = ks.length ∧ spM X.K np mf (.ref a :: (vs ++ zs)) H2 Q (WE Y σ)
/-- an expression of such a def's first statement -/
def PEA (X : Cx) (body : List Stmt) (e : Expr) (t : TE) : Prop := ∀ (pins : List (Addr × Obj)) (s : Shared) (σ : L2.St) (H : Hp) (Q : VK), Inv X pins σ H s → t σ H Q → _root_.PySem.wpAt (model X.prog X.w) X.A (.func body X.env) (eval e X.env) (EP X pins σ Q) X.xe s
theorem sup_meth {so a C dx : Addr} {fs : List (Str × V)} {g : Addr} {pl : Sem Bool} {R : Value × List Value → Shared → Prop} (I : Inv X pins σ H s) (hso : s.heap.get? so = some (PySem.W.ks_superObj D a C)) (ha : H a = some (.ins C dx fs)) (c : SupC X.K C D m g) (hm : (m == ("__class__" : Str)) = false)
    (h : ∀ s', Inv X ((s.heap.objs.size, PySem.W.methodObj (.ref g) (.ref a)) :: pins) σ H s' → R (.ref s.heap.objs.size, []) s') : wpAny (model X.prog X.w) X.A (getMethod (.ref so) m pl) R X.xe s := by
  have KX := I.kIn
  obtain ⟨mA, O, _⟩ := ins_get I.hok ha
  obtain ⟨oi, J, _⟩ := O.look
  have at_ := c.at_
  obtain ⟨hh, gg, dd, tt, os⟩ := s
  cases hc : PySem.W.clsIn X.K C with
  | none => unfold PySem.W.ks_superIn at at_; rw [hc] at at_; cases at_
  | some cd =>
    unfold PySem.W.ks_superIn at at_
    rw [hc] at at_
    obtain ⟨og, hog, hogc⟩ : ∃ og, hh.get? g = some og ∧ og.cls = .type "function" := by
      have ty : (X.K.lookup g).map (·.cls) = some (.type "function") := c.ty
      cases z : X.K.lookup g with
      | none => rw [z] at ty; cases ty
      | some og => rw [z] at ty; exact ⟨og, KX _ _ z, Option.some.inj ty⟩
    refine PySem.ks_wpAny_getMethod_super hso (PySem.W.looks_opaque KX c.opq) (l₀ := cd.mro) ?_ rfl KX at_ hog hogc (PySem.W.ks_ne KX J hc) hm ?_
    · exact fun A Q E s k q => wpAny_bind ((PySem.W.looks_clsIn KX hc) A _ E s k (wpAny_pure q))
    · exact h _ (met_new I)
theorem pea_sup {pl : Sem Bool} (S : SupX X slf D) (hgd : X.A.guards = some []) (hr : Room k X.A) (tY : Takes X Y) (ha : PA X (e :: es) t) (hkw : PK X kws tk) (hm : (m == ("__class__" : Str)) = false := by decide) (hall : (backToKw pos (keywordEach kws X.env)).all (·.1.isSome) = true := by rfl) (hks : (backToKw pos (keywordEach kws X.env)).filterMap (·.1) = ks := by rfl)
    (hst : starEach (e :: es) X.env = (false, eval e X.env) :: starEach es X.env := by rfl)
    (ht : eval (.Call (.Attribute (.Call (.Name "super" p0) [] [] p1) m apos) (e :: es) kws pos) X.env = (do
      let ov ← attributeBase (.Call (.Name "super" p0) [] [] p1) m X.env (eval (.Call (.Name "super" p0) [] [] p1) X.env)
      standAt apos.atName
      let (f, first) ← holding [ov] (getMethod ov m pl)
      callWith pos f first (backTo pos (starEach (e :: es) X.env)) (backToKw pos (keywordEach kws X.env))) := by rfl) :
    PEA X body (.Call (.Attribute (.Call (.Name "super" p0) [] [] p1) m apos) (e :: es) kws pos) (tSupG X Y k D m np n ks t tk) := by
  intro pins s σ H Q I h
  obtain ⟨a, C, dx, fs, g, mf, h0, hH, c, F, q⟩ := h
  obtain ⟨fd, ps, hnp, G, hb⟩ := F.ex
  rw [ht]
  refine _root_.PySem.wpAt_bind (sup_base S I h0 hH c.sub hm fun so h' keep hso => ?_)
  have I1 : Inv X pins σ H { s with heap := h' } := I.kept (t' := s.toks) keep
  refine _root_.PySem.wpAt_of_wpAny (wpAny_bind (wpAny_standAt (wpAny_bind (wpAny_holding (sup_meth I1 hso hH c hm fun s2 I2 => ?_)))))
  refine callWith_any (P := fun h => PySem.W.MethP X.K _ g (.ref a) h) (first := []) (fun h z => PySem.W.keeps_M c.fi h z) (PyProof.Rows.evalArgs_kw2 hall (thn (ha.run pos _ s2 σ H _ I2 q) ?_) hst)
  rintro us s3 ⟨vs, H3, I3, r, q3⟩
  refine thn (hkw.run pos _ s3 σ H3 _ I3 q3) ?_
  rintro ws s4 ⟨zs, H4, I4, rz, l1, l2, q4⟩
  rw [hks]
  refine ⟨⟨pin_at I4, I4.kIn⟩, ?_⟩
  have ln : (Value.ref a :: us).length = n + 1 := by rw [List.length_cons, ← r.length, l1]
  have rr : Vals (V.ref a :: vs) (Value.ref a :: us) := .cons rfl r
  have go := run_codeG G hgd hr (passAt tY σ) I4 (hb.to s4 (Value.ref a :: us) ws I4.kIn ln (rz.length.symm.trans l2)) (hb.rel rr rz) q4
  refine wpAny_mono (wpAny_call (PySem.W.method_call (pin_at I4) go)) (fun _ _ y => unpinE y) fun _ _ y => y
end
end Dn
/-! Ob8: defs whose first statement asks super(). -/
namespace Dn
open PySem L2 ClX NdefX PySem.Spec PyProof.Rows
section
variable {Y : WX} {X : Cx} {k np n i : Nat} {ks : List Str} {slf m x : Str} {D : Addr} {body rest : List Stmt} {p0 p1 apos pos px : Pos} {e l r : Expr} {es : List Expr} {kws : List Keyword} {t tk : TA} {te ta tb : TE} {st : Stmt} {ts us : TS} {op : Operator} {ro : R2}
/-- a statement of such a def, the first one -/
def PSA (X : Cx) (body : List Stmt) (st : Stmt) (t : TS) : Prop := ∀ (pins : List (Addr × Obj)) (s : Shared) (σ : L2.St) (H : Hp) (D : Ends), Inv X pins σ H s → t D σ H → _root_.PySem.wpAt (model X.prog X.w) X.A (.func body X.env) (exec st X.env) (SP X pins D) X.xe s
theorem psa_ret (he : PEA X body e te) : PSA X body (.Return (some e) pos) (tRet te) := fun pins s σ H D I h =>
  PySem.ks_wpAt_Return_some (PySem.ks_wpAt_mono (he pins s σ H _ I h) (fun v s1 ⟨xx, H1, I1, r1, q1⟩ => ⟨xx, σ, H1, I1, r1, q1⟩) fun _ _ z => z)
theorem psa_expr (he : PEA X body e te) (hi : interactive X.env = false := by rfl) (hs : swapsWith e none pos.line X.env = pure false := by rfl) : PSA X body (.Expr e pos) (tDrop te) := fun pins s σ H D I h =>
  PySem.ks_wpAt_Expr_any (PySem.ks_wpAt_mono (he pins s σ H _ I h) (fun v s1 ⟨xx, H1, I1, r1, q1⟩ => ⟨σ, H1, I1, q1⟩) fun _ _ z => z) hi hs
def PSSA (X : Cx) (body blk : List Stmt) (t : TS) : Prop := ∀ (pins : List (Addr × Obj)) (s : Shared) (σ : L2.St) (H : Hp) (D : Ends), Inv X pins σ H s → t D σ H → _root_.PySem.wpAt (model X.prog X.w) X.A (.func body X.env) (execs blk X.env) (SP X pins D) X.xe s
theorem pssa_cons (h1 : PSA X body st ts) (h2 : PSs X rest us) : PSSA X body (st :: rest) (tSeq ts us) := fun pins s σ H D I h => by
  refine PySem.ks_wpAt_execs_cons (PySem.ks_wpAt_mono (h1 pins s σ H { D with nx := us D } I h) (fun f s1 q => ?_) fun _ _ z => z)
  cases f with
  | next =>
    obtain ⟨σ', H', I', q⟩ := q
    exact _root_.PySem.wpAt_of_wpAny (h2.run pins s1 σ' H' D I' q)
  | ret v => exact q
  | brk => exact q
  | cont => exact q
end
/-! ### the def -/
/-- the names of such a def: its parameters, then __class__ -/
abbrev nfOf (x qual : Str) (st : Stmt) (cc cda : Addr) : NF := ⟨x, qual, defArgs st, defBody st, defScope st, [("__class__", cc)], cda⟩
/-- a def that stands in the module with the cell of its class -/
structure FunS (K : PySem.W.Frag) (x qual : Str) (st : Stmt) (f : Addr) (fd : FuncData) (cc cda : Addr) : Prop where
  ex : ∃ (oc : Value) (od : Option Addr) (dV kV doc pm : Value) (an : Option Addr) (ct : Value) (osl : Array (Option Value)),
    fd = PySem.W.fnX x qual (defArgs st) (defBody st) (defScope st) [("__class__", cc)] dV kV doc pm an (.ref cda) ct ∧ K.lookup f = some ⟨oc, od, .func fd, osl⟩ ∧ PySem.W.codeIn K (.ref cda) qual = true
  cell : ∃ (oc : Value) (od : Option Addr) (v : Option Value) (osl : Array (Option Value)), K.lookup cc = some ⟨oc, od, .cell v, osl⟩
abbrev supX (P : Program) (w : World) (K : PySem.W.Frag) (mg : Str → Option Value) (base : Heap) (N : List Str) (x qual : Str) (st : Stmt) (cc cda f : Addr) (A : Around) (outer : List PySem.Env) (s : Shared) (H : Hp) (E : XK) : Cx := ncx (L2.CX P w) P w K mg base N (nfOf x qual st cc cda) f A outer s H E
theorem fn_ofS {P : Program} {w : World} {K : PySem.W.Frag} {mg : Str → Option Value} {base : Heap} {k : Nat} {f cc cda : Addr} {fd : FuncData} {x qual : Str} {st : Stmt} {N ps : List Str} {sp : Sp}
    (F : FunS K x qual st f fd cc cda) (S : NScope N ps ["__class__"] (defScope st)) (len : ∀ vs H Q E, sp vs H Q E → vs.length = ps.length)
    (hbody : ∀ (A : Around) (outer : List PySem.Env) (s : Shared) (H : Hp) (vs : List V) (Q : VK) (E : XK), (supX P w K mg base N x qual st cc cda f A outer s H E).A.guards = some [] → Room k (supX P w K mg base N x qual st cc cda f A outer s H E).A → sp vs H Q E →
      ∃ t, PSSA (supX P w K mg base N x qual st cc cda f A outer s H E) (defBody st) (defBody st) t ∧ t { nx := fun _ H' => Q .non H', rt := Q } (L2.start N vs) H) :
    FnG P w K mg base (L2.CX P w) (k + 1) f fd ps sp := by
  refine ⟨len, fun A outer s H args us vs Q E hgd hr e0 hb r hsp => ?_⟩
  have hl := len _ _ _ _ hsp
  obtain ⟨oc, od, dV, kV, doc, pm, an, ct, osl, rfl, lk, hcd⟩ := F.ex
  obtain ⟨occ, odc, vc, oslc, lkc⟩ := F.cell
  have KX : K.In s.heap := e0.mod.kin.keeps fun b o e => (e0.bs b o e).1
  have lim : s.heap.NoLimit := e0.mod.nolimit.keeps fun b o e => (e0.bs b o e).1
  have hcc : H cc = none := (e0.bs cc _ (e0.mod.kin _ _ lkc)).2
  refine PySem.ks_codeAny_call_defAt (binds := ps.zip us) hr.depth (KX _ _ lk) rfl lim (PySem.W.codeRec_of KX hcd) rfl hb S.nocell (fun ⟨n, _⟩ hy => S.par n (List.of_mem_zip hy).1) (fun h₁ hns kp => ?_) S.co S.gen S.kind
  have CA : CellsAt [("__class__", cc)] ["__class__"] [none] s.heap H := by
    have one : ∀ {y : Str} {c : Addr}, ([(("__class__" : Str), cc)] : List (Str × Addr)).lookup y = some c → y = "__class__" ∧ c = cc := fun {y c} z => by
      rw [List.lookup] at z
      split at z
      · rename_i hy
        exact ⟨beq_iff_eq.mp hy, (Option.some.inj z).symm⟩
      · cases z
    refine ⟨rfl, fun y c z => ?_, fun y z c h1 h2 => (one h1).1.trans (one h2).1.symm, fun i y hi => ?_⟩
    · obtain ⟨_, rfl⟩ := one z
      exact ⟨hcc, vc, _, KX _ _ lkc, rfl⟩
    · cases i with
      | zero =>
        cases hi
        exact ⟨cc, by simp [List.lookup], fun v z => by cases z⟩
      | succ i => cases hi
  have I : Inv (supX P w K mg base N x qual st cc cda f A outer s H E) [] (startF N vs [none]) H { s with heap := h₁, toks := s.toks + (ps.zip us).length } := inv_startN S hr.hd e0 hl r CA hns kp
  have e2 : startF N vs [none] = L2.start N vs := by
    have hpl : ps.length + 1 ≤ N.length := by
      have q := congrArg List.length S.pre
      rw [List.length_take, List.length_append] at q
      have q : min (ps.length + 1) N.length = ps.length + 1 := q
      omega
    unfold startF L2.start
    have e3 : N.length - vs.length = (N.length - vs.length - [(none : Option V)].length) + 1 := by
      show N.length - vs.length = N.length - vs.length - 1 + 1
      omega
    rw [e3, List.replicate_succ]
    rfl
  rw [e2] at I
  obtain ⟨t, ht, hq⟩ := hbody A outer s H vs Q E hgd (hr.deeper _) hsp
  have fin : ∀ {σ' : L2.St} {H' : Hp} {v : V} {u : Value} {s' : Shared}, Inv (supX P w K mg base N x qual st cc cda f A outer s H E) [] σ' H' s' → RelV v u → Q v H' → CE outer P w H s Q u s' := fun {σ' H' v u s'} J rv q => ⟨v, H', J.os, J.bare, J.base, J.hok, rv, q⟩
  refine PySem.ks_wpAt_mono (ht [] _ (L2.start N vs) H _ I hq) (fun fl s' hs => ?_) fun e s' hs => hs
  match fl, hs with
  | .ret u, ⟨v, σ', H', J, rv, q⟩ => exact fin J rv q
  | .next, ⟨σ', H', J, q⟩ => exact fin (v := V.non) (u := Value.none) J rfl q
  | .brk, ⟨_, _, _, q⟩ => exact False.elim q
  | .cont, ⟨_, _, _, q⟩ => exact False.elim q
end Dn
/-! Ob9: super() in short; instances called. -/
namespace Dn
open PySem L2 ClX NdefX PySem.Spec PyProof.Rows
/-- what super().m is, by the class of self -/
structure SupTab (P : Program) (w : World) (K : PySem.W.Frag) (mg : Str → Option Value) (base : Heap) (k : Nat) (D : Addr) (m : Str) (np n : Nat) (ks : List Str) (tab : List (Str × Fn)) : Prop where
  ok : ∀ c mf, tab.lookup c = some mf → ∃ C g, ClsAt K c C ∧ SupC K C D m g ∧ Ent P w K mg base k g np n ks mf
def supM (tab : List (Str × Fn)) (n : Nat) (r : M (List PV)) : M PV := fun (s : S) => match s.env[0]? with
  | some (some (SV.val d)) => (match insOf s d with
    | some (c, _, _) => (match tab.lookup c with
      | some f => bnd r (fun ds => runM f n (d :: ds)) s
      | none => .stk)
    | none => .stk)
  | _ => .stk
section
variable {Y : WX} {X : Cx} {k j np n i : Nat} {ks : List Str} {slf m x : Str} {D : Addr} {body rest : List Stmt} {p0 p1 apos pos px : Pos} {e l r : Expr} {es : List Expr} {kws : List Keyword} {ca cb : M (List PV)} {ce cl cr : M PV} {tab : List (Str × Fn)} {st : Stmt} {σ : L2.St} {H : Hp} {Q : VK} {fa fb : M Fl}
theorem den_sup (T : SupTab X.prog X.w X.K X.mg X.base k D m np (i + 1) ks tab) (h : den X.K Y (supM tab n (appA i ks.length ca cb)) σ H Q) : tSupG X Y k D m np i ks (denA X.K Y ca) (denA X.K Y cb) σ H Q := by
  obtain ⟨C, W, s, at', p⟩ := h
  unfold supM at p
  split at p
  · rename_i d he
    obtain ⟨v, hv, rv⟩ := at'.val 0 d he
    split at p
    · rename_i c kk vv e
      split at p
      · rename_i mf hmf
        obtain ⟨a, Cc, dx, us, rfl, h1, h2, ll, ru⟩ := insOf_rep at' rv e
        obtain ⟨C2, g, k1, k2, F⟩ := T.ok c mf hmf
        cases cls_uniq h1 k1
        refine ⟨a, _, dx, _, g, mf, hv, h2, k2, F, ?_⟩
        refine den_appA at' (f := fun ds s => runM mf n (d :: ds) s) p fun ds es s2 W2 H2 l2 a2 p2 us ws r1 r2 l1 l2' => ?_
        exact ⟨l1, l2', sp_run F.len a2 (.cons (rv.mono l2) (r1.append r2)) p2⟩
      · exact p.elim
    · exact p.elim
  · exact p.elim
theorem pea_imp {te te' : TE} (h : PEA X body e te) (f : ∀ σ H Q, te' σ H Q → te σ H Q) : PEA X body e te' := fun pins s σ H Q I q => h pins s σ H Q I (f σ H Q q)
theorem psa_imp {t t' : TS} (h : PSA X body st t) (f : ∀ D σ H, t' D σ H → t D σ H) : PSA X body st t' := fun pins s σ H D I q => h pins s σ H D I (f D σ H q)
theorem asup {pl : Sem Bool} (n : Nat) (T : SupTab X.prog X.w X.K X.mg X.base j D m np (i + 1) ks tab) (S : SupX X slf D) (hgd : X.A.guards = some []) (hr : Room k X.A) (tY : Takes X Y) (hjk : j ≤ k) (ha : PA X (e :: es) (denA X.K Y ca)) (hkw : PK X kws (denA X.K Y cb)) (hm : (m == ("__class__" : Str)) = false := by decide) (hall : (backToKw pos (keywordEach kws X.env)).all (·.1.isSome) = true := by rfl) (hks : (backToKw pos (keywordEach kws X.env)).filterMap (·.1) = ks := by rfl)
    (hst : starEach (e :: es) X.env = (false, eval e X.env) :: starEach es X.env := by rfl)
    (ht : eval (.Call (.Attribute (.Call (.Name "super" p0) [] [] p1) m apos) (e :: es) kws pos) X.env = (do
      let ov ← attributeBase (.Call (.Name "super" p0) [] [] p1) m X.env (eval (.Call (.Name "super" p0) [] [] p1) X.env)
      standAt apos.atName
      let (f, first) ← holding [ov] (getMethod ov m pl)
      callWith pos f first (backTo pos (starEach (e :: es) X.env)) (backToKw pos (keywordEach kws X.env))) := by rfl) :
    PEA X body (.Call (.Attribute (.Call (.Name "super" p0) [] [] p1) m apos) (e :: es) kws pos) (den X.K Y (supM tab n (appA i ks.length ca cb))) := pea_imp (pea_sup S hgd (hr.mono hjk) tY ha hkw hm hall hks hst ht) fun _ _ _ => den_sup T
theorem aret (he : PEA X body e (den X.K Y ce)) : PSA X body (.Return (some e) pos) (denS X.K Y (retM ce)) := psa_imp (psa_ret he) fun _ _ _ => den_return
theorem aexpr (he : PEA X body e (den X.K Y ce)) (hi : interactive X.env = false := by rfl) (hs : swapsWith e none pos.line X.env = pure false := by rfl) : PSA X body (.Expr e pos) (denS X.K Y (dropM ce)) := psa_imp (psa_expr he hi hs) fun _ _ _ => den_drop
theorem pssa_imp {blk : List Stmt} {t t' : TS} (h : PSSA X body blk t) (f : ∀ D σ H, t' D σ H → t D σ H) : PSSA X body blk t' := fun pins s σ H D I q => h pins s σ H D I (f D σ H q)
theorem acons1 (h1 : PSA X body st (denS X.K Y fa)) (h2 : PSs X rest (denS X.K Y fb)) : PSSA X body (st :: rest) (denS X.K Y (seqM fa fb)) := pssa_imp (pssa_cons h1 h2) fun _ _ _ => den_seq
end
/-- THE RULE: such a def keeps the promise of its computation -/
theorem fn_denS {P : Program} {w : World} {K : PySem.W.Frag} {mg : Str → Option Value} {base : Heap} {k : Nat} {f cc cda : Addr} {fd : FuncData} {x qual : Str} {st : Stmt} {N ps : List Str} {body : Nat → M Fl}
    (F : FunS K x qual st f fd cc cda) (S : NScope N ps ["__class__"] (defScope st)) (hN : ps.length ≤ N.length)
    (hbody : ∀ (A : Around) (outer : List PySem.Env) (s : Shared) (H : Hp) (E : XK) (n : Nat), (supX P w K mg base N x qual st cc cda f A outer s H E).A.guards = some [] → Room k (supX P w K mg base N x qual st cc cda f A outer s H E).A →
      Takes (supX P w K mg base N x qual st cc cda f A outer s H E) (yE E) → PassesOwn (model P w) (supX P w K mg base N x qual st cc cda f A outer s H E).A (supX P w K mg base N x qual st cc cda f A outer s H E).env (supX P w K mg base N x qual st cc cda f A outer s H E).xe →
      PSSA (supX P w K mg base N x qual st cc cda f A outer s H E) (defBody st) (defBody st) (denS K (yE E) (body n))) :
    FnG P w K mg base (L2.CX P w) (k + 1) f fd ps (spM K ps.length (fnM ps.length N.length body)) := by
  refine fn_ofS F S (fun vs H Q E h => h.1) fun A outer s H vs Q E hgd hr hsp => ?_
  obtain ⟨n, h⟩ := start_den hN hsp
  exact ⟨_, hbody A outer s H E n hgd hr (takes_of rfl rfl rfl rfl) (passes_of rfl), h⟩
end Dn
/-! Ex1: own exception classes of one field, over any built-in class; raised. -/
namespace Dn
open PySem L2 PySem.Spec PyProof.Rows
/-! ### the rules -/
end Dn
/-! Ex2: raise C(e); the def __init__ of such a class; try .. except C. -/
namespace Dn
open PySem L2 PySem.Spec PyProof.Rows
/-! ### raise C(e) in a body -/
end Dn
/-! Ex3: try .. except C; instances called; constants of a class. -/
namespace Dn
open PySem L2 ClX StX PySem.Spec PyProof.Rows
section
variable {Y : WX} {K : PySem.W.Frag} {D : Ends} {σ : L2.St} {H : Hp} {tab : List (Str × Bool)} {fa fb : M Fl} {cv : Value} {C : Ctx} {W : Vw}
theorem PstS.other {Y' : WX} {r : Res S Fl} (hr : ∀ e s, r ≠ .exc e s) (p : PstS K (C.wi Y) W D r) : PstS K (C.wi Y') W D r := by
  cases r with
  | ok fl s => exact fun W' σ' H' l a => p W' σ' H' l (a.wi Y)
  | exc e s => exact absurd rfl (hr e s)
  | stk => exact p
end
section
variable {Y : WX} {X : Cx} {k j np n i : Nat} {ks : List Str} {m x f : Str} {a e o : Expr} {es : List Expr} {ca : M (List PV)} {co ce : M PV} {tab : List (Str × Fn)} {etab : List (Str × Bool)} {pos p p1 np' : Pos} {body suite : List Stmt} {b₀ : Stmt} {fa fb : M Fl} {cv : Value}
/-! ### f(e, ..), f an instance -/
/-! ### C.f, a constant of the class -/
theorem xcattr {C : Addr} {mc : Value} {c : Str} {v : Int} {u : Value} (hm : X.mg c = some (.ref C)) (r : CRead X.K C mc) (kv : CVal X.K C mc f (.int v) u) (hg : Gl X c := by rfl) (hd : (c == ("__debug__" : Str)) = false := by decide) (hb : attributeBase (.Name c p) f X.env (eval (.Name c p) X.env) = eval (.Name c p) X.env := by rfl) :
    PE X (.Attribute (.Name c p) f pos) (den X.K Y (ret (.int v))) := pe_imp (pe_cval (pe_glob hg hm (show RelV (.ref C) (.ref C) from rfl) hd) hb) fun σ H Q h => by
  obtain ⟨C0, W, s, at', p⟩ := h
  exact ⟨C, mc, .int v, u, rfl, r, kv, p W H (Vw.Le.refl _) at' _ (.int v)⟩
end
end Dn
/-! Fx: what a printed text is told of the module: defs, methods, classes, each in one row. -/
namespace Dn
open PySem L2 ClX StX NdefX PySem.Spec PyProof.Rows
theorem look_cons {α : Type} {a c : Str} {x y : α} {r : List (Str × α)} (h : ((a, x) :: r).lookup c = some y) : (c = a ∧ y = x) ∨ r.lookup c = some y := by
  rw [List.lookup] at h
  split at h
  · rename_i e
    exact .inl ⟨beq_iff_eq.mp e, (Option.some.inj h).symm⟩
  · exact .inr h
/-- a def of the module, called by place -/
def FnP (K : PySem.W.Frag) (mg : Str → Option Value) (x : Str) (st : Stmt) (ps : List Str) : Prop := ∃ f fd, mg x = some (.ref f) ∧ Fun K x x st f fd ∧ Binds K fd ps []
/-- .. called with keywords -/
def FnKP (K : PySem.W.Frag) (mg : Str → Option Value) (x : Str) (st : Stmt) (ps : List Str) (n : Nat) (ks : List Str) : Prop := ∃ f fd, mg x = some (.ref f) ∧ Fun K x x st f fd ∧ KB K fd ps n ks
/-- a method of the class c (its own or one from above), called so -/
def MthP (K : PySem.W.Frag) (c m qual : Str) (st : Stmt) (ps : List Str) (n : Nat) (ks : List Str) : Prop := ∃ C g fd, ClsAt K c C ∧ Cls K C ∧ Meth K C m g ∧ Fun K m qual st g fd ∧ KB K fd ps n ks
/-- what a def with super() needs: its class at D -/
structure SupF (P : Program) (K : PySem.W.Frag) (mg : Str → Option Value) (f cc cda D : Addr) (slf : Str) : Prop where
  sup : mg "super" = none
  fn : ∃ (oc : Value) (od : Option Addr) (fd : FuncData) (osl : Array (Option Value)) (ar : Arg), K.lookup f = some ⟨oc, od, .func fd, osl⟩ ∧ (fd.params.posonlyargs ++ fd.params.args).head? = some ar ∧ ar.arg = slf
  code : ∃ (oc : Value) (od : Option Addr) (vs : Array Value) (osl : Array (Option Value)) (file : Str) (tf : Tok), K.lookup cda = some ⟨oc, od, .fields vs, osl⟩ ∧ vs[2]? = some (.str file tf) ∧ ((P.main.file : Str) == file) = true
  top : (P.main.scope.names.lookup ("super" : Str)).isSome = false
  cell : ∃ (oc : Value) (od : Option Addr) (osl : Array (Option Value)), K.lookup cc = some ⟨oc, od, .cell (some (.ref D)), osl⟩
  cls : ∃ cd, PySem.W.clsIn K D = some cd
/-- a method with super() -/
def MthS (P : Program) (K : PySem.W.Frag) (mg : Str → Option Value) (c m qual dn : Str) (st : Stmt) (ps : List Str) (n : Nat) (ks : List Str) : Prop := ∃ C g fd cc cda D, ClsAt K c C ∧ Cls K C ∧ Meth K C m g ∧ FunS K m qual st g fd cc cda ∧ SupF P K mg g cc cda D "self" ∧ ClsAt K dn D ∧ KB K fd ps n ks
/-- a class called -/
def MkP (K : PySem.W.Frag) (mg : Str → Option Value) (c qual : Str) (st : Stmt) (ps : List Str) (n : Nat) (ks : List Str) : Prop := ∃ C f fd, ClsAt K c C ∧ mg c = some (.ref C) ∧ Mk K C f ∧ Fun K "__init__" qual st f fd ∧ KB K fd ps (n + 1) ks
def MkS (P : Program) (K : PySem.W.Frag) (mg : Str → Option Value) (c qual dn : Str) (st : Stmt) (ps : List Str) (n : Nat) (ks : List Str) : Prop := ∃ C f fd cc cda D, ClsAt K c C ∧ mg c = some (.ref C) ∧ Mk K C f ∧ FunS K "__init__" qual st f fd cc cda ∧ SupF P K mg f cc cda D "self" ∧ ClsAt K dn D ∧ KB K fd ps (n + 1) ks
/-- super().m of an instance of c, asked in the class dn -/
def SupP (K : PySem.W.Frag) (c dn m qual : Str) (st : Stmt) (ps : List Str) (n : Nat) (ks : List Str) : Prop := ∃ C D g fd, ClsAt K c C ∧ ClsAt K dn D ∧ SupC K C D m g ∧ Fun K m qual st g fd ∧ KB K fd ps n ks
def IntP (mg : Str → Option Value) (x : Str) (i : Int) : Prop := ∃ t, mg x = some (.int i t)
def StrP (mg : Str → Option Value) (x y : Str) : Prop := ∃ t, mg x = some (.str y t)
/-- C.f, an int -/
def CatP (K : PySem.W.Frag) (mg : Str → Option Value) (c f : Str) (i : Int) : Prop := ∃ C mc u, mg c = some (.ref C) ∧ CRead K C mc ∧ CVal K C mc f (.int i) u
theorem supX_of {P : Program} {w : World} {K : PySem.W.Frag} {mg : Str → Option Value} {base : Heap} {N : List Str} {x qual : Str} {st : Stmt} {cc cda f D : Addr} {A : Around} {outer : List PySem.Env} {s : Shared} {H : Hp} {E : XK} (S : SupF P K mg f cc cda D "self")
    (ks : (supX P w K mg base N x qual st cc cda f A outer s H E).env.kindOf "super" = some .globalImplicit) (kc : (supX P w K mg base N x qual st cc cda f A outer s H E).env.kindOf "__class__" = some .free) (sl : (supX P w K mg base N x qual st cc cda f A outer s H E).env.kindOf "self" = some .local) (n0 : N[0]? = some ("self" : Str)) :
    SupX (supX P w K mg base N x qual st cc cda f A outer s H E) "self" D := by
  obtain ⟨oc, od, fd, osl, ar, e1, e2, e3⟩ := S.fn
  obtain ⟨oc2, od2, vs, osl2, file, tf, c1, c2, c3⟩ := S.code
  obtain ⟨oc3, od3, osl3, d1⟩ := S.cell
  exact ⟨ks, kc, sl, n0, S.sup, ⟨f, oc, od, fd, osl, ar, rfl, e1, e2, e3⟩, ⟨cda, oc2, od2, vs, osl2, file, tf, rfl, c1, c2, c3⟩, S.top, ⟨cc, oc3, od3, osl3, rfl, d1⟩, S.cls⟩
/-- a statement that is never come to -/
theorem sstuck {Y : WX} {X : Cx} {st : Stmt} : PS X st (denS X.K Y stuck) := ⟨fun pins s σ H D I h => by
  obtain ⟨C, W, s, at', p⟩ := h
  exact p.elim⟩
end Dn
/-! Fy: from the rows of Fx to what a walk takes. -/
namespace Dn
open PySem L2 ClX StX NdefX PySem.Spec PyProof.Rows
/-- the i-th statement of a class -/
def clsDef (st : Stmt) (i : Nat) : Stmt := match st with
  | .ClassDef _ _ _ body _ _ _ _ _ _ _ => body.getD i (.Pass ⟨0, 0, 0, 0⟩)
  | _ => .Pass ⟨0, 0, 0, 0⟩
section
variable {P : Program} {w : World} {K : PySem.W.Frag} {mg : Str → Option Value} {base : Heap} {k : Nat} {x qual c m f v dn : Str} {st : Stmt} {N ps ks : List Str} {n np : Nat} {nn : Nat} {body : Nat → M Fl}
abbrev bodyQ (P : Program) (w : World) (K : PySem.W.Frag) (mg : Str → Option Value) (base : Heap) (N : List Str) (qual : Str) (st : Stmt) (f : Addr) (cdv : Value) (A : Around) (outer : List PySem.Env) (s : Shared) (H : Hp) (E : XK) : Cx := cxOf (L2.CX P w) P w K mg base N qual (defScope st) f cdv A outer s H E
/-- a def's promise, its facts first -/
abbrev Pr (P : Program) (w : World) (K : PySem.W.Frag) (mg : Str → Option Value) (base : Heap) (k : Nat) (x qual : Str) (st : Stmt) (ps : List Str) (m : Fn) : Prop := ∀ f fd, Fun K x qual st f fd → FnG P w K mg base (L2.CX P w) k f fd ps (spM K ps.length m)
theorem pr_mk (S : FnScope N ps (defScope st)) (hN : ps.length ≤ N.length)
    (hbody : ∀ (f : Addr) (cdv : Value) (A : Around) (outer : List PySem.Env) (s : Shared) (H : Hp) (E : XK) (n : Nat), (A.deeper (envOfC qual (defScope st) s.heap.objs.size f cdv)).guards = some [] → Room k (A.deeper (envOfC qual (defScope st) s.heap.objs.size f cdv)) →
      Takes (bodyQ P w K mg base N qual st f cdv A outer s H E) (yE E) → PassesOwn (model P w) (bodyQ P w K mg base N qual st f cdv A outer s H E).A (bodyQ P w K mg base N qual st f cdv A outer s H E).env (bodyQ P w K mg base N qual st f cdv A outer s H E).xe →
      PSs (bodyQ P w K mg base N qual st f cdv A outer s H E) (defBody st) (denS K (yE E) (body n))) :
    Pr P w K mg base (k + 1) x qual st ps (fnM ps.length N.length body) := fun f fd F =>
  fn_den F S hN fun cdv A outer s H E n hgd hr tk => hbody f cdv A outer s H E n hgd hr tk (passes_of rfl)
/-- .. of a def with super() -/
abbrev PrS (P : Program) (w : World) (K : PySem.W.Frag) (mg : Str → Option Value) (base : Heap) (k : Nat) (x qual dn : Str) (st : Stmt) (ps : List Str) (m : Fn) : Prop := ∀ f fd cc cda D, FunS K x qual st f fd cc cda → SupF P K mg f cc cda D "self" → ClsAt K dn D → FnG P w K mg base (L2.CX P w) k f fd ps (spM K ps.length m)
theorem prs_mk (S : NScope N ps ["__class__"] (defScope st)) (hN : ps.length ≤ N.length)
    (hbody : ∀ (f cc cda D : Addr), SupF P K mg f cc cda D "self" → ClsAt K dn D → ∀ (A : Around) (outer : List PySem.Env) (s : Shared) (H : Hp) (E : XK) (n : Nat), (supX P w K mg base N x qual st cc cda f A outer s H E).A.guards = some [] → Room k (supX P w K mg base N x qual st cc cda f A outer s H E).A →
      Takes (supX P w K mg base N x qual st cc cda f A outer s H E) (yE E) → PassesOwn (model P w) (supX P w K mg base N x qual st cc cda f A outer s H E).A (supX P w K mg base N x qual st cc cda f A outer s H E).env (supX P w K mg base N x qual st cc cda f A outer s H E).xe →
      PSSA (supX P w K mg base N x qual st cc cda f A outer s H E) (defBody st) (defBody st) (denS K (yE E) (body n))) :
    PrS P w K mg base (k + 1) x qual dn st ps (fnM ps.length N.length body) := fun f fd cc cda D F S1 hc =>
  fn_denS F S hN (hbody f cc cda D S1 hc)
theorem binds_of (hb : KB K fd ps n []) (e : ps.length = n) : Binds K fd ps [] := by
  intro s us X l
  have := hb.to s us [] X (by rw [List.append_nil] at l; omega) rfl
  simpa using this
/-- the rows, filled -/
theorem df_row (G : Pr P w K mg base k x x st ps (fnM np nn body)) (Z : FnP K mg x st ps) (e : ps.length = np) : Df P w K mg base k x ps (fnM np nn body) := by
  obtain ⟨f, fd, hm, F, hb⟩ := Z
  subst e
  exact ⟨⟨f, fd, G f fd F, hm, F.kp, hb⟩, fun n ds st h => fnM_len h⟩
theorem ent_row (G : Pr P w K mg base k x qual st ps (fnM np nn body)) {g : Addr} {fd : FuncData} (F : Fun K x qual st g fd) (hb : KB K fd ps n ks) (e : ps.length = np) : Ent P w K mg base k g np n ks (fnM np nn body) := by
  subst e
  exact ⟨⟨fd, ps, rfl, G g fd F, hb⟩, fun n ds st h => fnM_len h⟩
theorem entS_row (G : PrS P w K mg base k x qual dn st ps (fnM np nn body)) {g : Addr} {fd : FuncData} {cc cda D : Addr} (F : FunS K x qual st g fd cc cda) (S : SupF P K mg g cc cda D "self") (hc : ClsAt K dn D) (hb : KB K fd ps n ks) (e : ps.length = np) : Ent P w K mg base k g np n ks (fnM np nn body) := by
  subst e
  exact ⟨⟨fd, ps, rfl, G g fd cc cda D F S hc, hb⟩, fun n ds st h => fnM_len h⟩
theorem dfk_row (G : Pr P w K mg base k x x st ps (fnM np nn body)) (Z : FnKP K mg x st ps n ks) (e : ps.length = np) : DfK P w K mg base k x np n ks (fnM np nn body) := by
  obtain ⟨f, fd, hm, F, hb⟩ := Z
  exact ⟨⟨f, hm, F.kp, ent_row G F hb e⟩⟩
/-- one row of a table of methods -/
abbrev MRow (P : Program) (w : World) (K : PySem.W.Frag) (mg : Str → Option Value) (base : Heap) (k : Nat) (m : Str) (np n : Nat) (ks : List Str) (c : Str) (mf : Fn) : Prop := ∃ C g, ClsAt K c C ∧ Cls K C ∧ Meth K C m g ∧ Ent P w K mg base k g np n ks mf
theorem mrow (G : Pr P w K mg base k m qual st ps (fnM np nn body)) (Z : MthP K c m qual st ps n ks) {k' : Nat} (hk : k ≤ k') (e : ps.length = np) : MRow P w K mg base k' m np n ks c (fnM np nn body) := by
  obtain ⟨C, g, fd, h1, h2, h3, F, hb⟩ := Z
  exact ⟨C, g, h1, h2, h3, FnG.up (ent_row G F hb e) hk⟩
theorem mrowS (G : PrS P w K mg base k m qual dn st ps (fnM np nn body)) (Z : MthS P K mg c m qual dn st ps n ks) {k' : Nat} (hk : k ≤ k') (e : ps.length = np) : MRow P w K mg base k' m np n ks c (fnM np nn body) := by
  obtain ⟨C, g, fd, cc, cda, D, h1, h2, h3, F, S, hc, hb⟩ := Z
  exact ⟨C, g, h1, h2, h3, FnG.up (entS_row G F S hc hb e) hk⟩
theorem tab0 : TabOk P w K mg base k m np n ks [] := ⟨fun c mf h => by cases h⟩
theorem tabC {mf : Fn} {tab : List (Str × Fn)} (h : MRow P w K mg base k m np n ks c mf) (t : TabOk P w K mg base k m np n ks tab) : TabOk P w K mg base k m np n ks ((c, mf) :: tab) := ⟨fun c' mf' l => by
  rcases look_cons l with ⟨rfl, rfl⟩ | l
  · exact h
  · exact t.ok _ _ l⟩
theorem mk_row (G : Pr P w K mg base k "__init__" qual st ps (fnM np nn body)) (Z : MkP K mg c qual st ps n ks) (e : ps.length = np) : MkK P w K mg base k c np n ks (fnM np nn body) := by
  obtain ⟨C, f, fd, h1, h2, h3, F, hb⟩ := Z
  exact ⟨⟨C, f, h1, h2, h3, ent_row G F hb e⟩⟩
theorem mkS_row (G : PrS P w K mg base k "__init__" qual dn st ps (fnM np nn body)) (Z : MkS P K mg c qual dn st ps n ks) (e : ps.length = np) : MkK P w K mg base k c np n ks (fnM np nn body) := by
  obtain ⟨C, f, fd, cc, cda, D, h1, h2, h3, F, S, hc, hb⟩ := Z
  exact ⟨⟨C, f, h1, h2, h3, entS_row G F S hc hb e⟩⟩
theorem sup0 {D : Addr} : SupTab P w K mg base k D m np n ks [] := ⟨fun c mf h => by cases h⟩
theorem supC {D : Addr} {tab : List (Str × Fn)} (hD : ClsAt K dn D) (G : Pr P w K mg base k m qual st ps (fnM np nn body)) (Z : SupP K c dn m qual st ps n ks) {k' : Nat} (hk : k ≤ k') (e : ps.length = np) (t : SupTab P w K mg base k' D m np n ks tab) : SupTab P w K mg base k' D m np n ks ((c, fnM np nn body) :: tab) := ⟨fun c' mf' l => by
  rcases look_cons l with ⟨rfl, rfl⟩ | l
  · obtain ⟨C, D2, g, fd, h1, h2, h3, F, hb⟩ := Z
    cases cls_uniq hD h2
    exact ⟨C, g, h1, h3, FnG.up (ent_row G F hb e) hk⟩
  · exact t.ok _ _ l⟩
theorem Fun.kb {f : Addr} {fd : FuncData} (F : Fun K x qual st f fd)
    (h : ∀ (kV doc pm : Value) (an : Option Addr) (cdv ct : Value) (us ws : List Value), us.length = n → ws.length = ks.length → bindArgs (PySem.W.fnOf x qual (defArgs st) (defBody st) (defScope st) .none kV doc pm an cdv ct) ⟨us, ks.zip ws⟩ = pure (ps.zip (us ++ ws))) : KB K fd ps n ks := by
  obtain ⟨oc, od, kV, doc, pm, an, cdv, ct, osl, rfl, lk, hcd⟩ := F.ex
  exact ⟨fun s us ws X l1 l2 => .of_eq (h kV doc pm an cdv ct us ws l1 l2), fun r1 r2 => r1.append r2⟩
theorem kbX {cc : Addr} {kV doc pm cdv ct : Value} {an : Option Addr}
    (h : ∀ (us ws : List Value), us.length = n → ws.length = ks.length → bindArgs (PySem.W.fnX x qual (defArgs st) (defBody st) (defScope st) [("__class__", cc)] .none kV doc pm an cdv ct) ⟨us, ks.zip ws⟩ = pure (ps.zip (us ++ ws))) : KB K (PySem.W.fnX x qual (defArgs st) (defBody st) (defScope st) [("__class__", cc)] .none kV doc pm an cdv ct) ps n ks :=
  ⟨fun s us ws X l1 l2 => .of_eq (h us ws l1 l2), fun r1 r2 => r1.append r2⟩
theorem fld0 : FldOk K f [] := fun c h => by cases h
theorem fldC {C : Addr} {cs : List Str} (h1 : ClsAt K c C) (h2 : Cls K C) (h3 : NoAttr K C f) (t : FldOk K f cs) : FldOk K f (c :: cs) := fun c' h => by
  rcases List.mem_cons.mp h with rfl | h
  · exact ⟨C, h1, h2, h3⟩
  · exact t _ h
theorem con0 {i : Int} : ConOk K f i [] := fun c h => by cases h
theorem conC {C : Addr} {cs : List Str} {i : Int} {u : Value} (h1 : ClsAt K c C) (h2 : Cls K C) (h3 : Con K C f (.int i) u) (t : ConOk K f i cs) : ConOk K f i (c :: cs) := fun c' h => by
  rcases List.mem_cons.mp h with rfl | h
  · exact ⟨C, u, h1, h2, h3⟩
  · exact t _ h
/-- a property of the class c -/
def PrpP (K : PySem.W.Frag) (c m qual : Str) (st : Stmt) : Prop := ∃ C p g fd, ClsAt K c C ∧ Cls K C ∧ PropOf K C m p g ∧ Fun K m qual st g fd ∧ KB K fd ["self"] 1 []
theorem prp0 : PropTab P w K mg base k m [] := ⟨fun c mf h => by cases h⟩
theorem prpC {tab : List (Str × Fn)} (G : Pr P w K mg base k m qual st ["self"] (fnM np nn body)) (Z : PrpP K c m qual st) {k' : Nat} (hk : k ≤ k') (e : 1 = np) (t : PropTab P w K mg base k' m tab) : PropTab P w K mg base k' m ((c, fnM np nn body) :: tab) := ⟨fun c' mf' l => by
  rcases look_cons l with ⟨rfl, rfl⟩ | l
  · obtain ⟨C, p, g, fd, h1, h2, h3, F, hb⟩ := Z
    subst e
    exact ⟨C, h1, h2, p, g, h3, FnG.up (ent_row G F hb rfl) hk⟩
  · exact t.ok _ _ l⟩
end
end Dn
/-! Op1: == and != of own instances; isinstance of own classes. -/
namespace Dn
open PySem L2 ClX StX PySem.Spec PyProof.Rows PySem.Calls
end Dn
/-! Op2: == and != of own instances as computations; isinstance of an own class. -/
namespace Dn
open PySem L2 ClX StX PySem.Spec PyProof.Rows PySem.Calls
/-- the built-in types that stand in values -/
abbrev blts : List String := ["NoneType", "bool", "int", "str", "tuple", "list", "dict"]
def tyS (s : S) : PV → Option String
  | .hnd n => match s.sto[n]? with
    | some (.dic _) => some "dict"
    | _ => none
  | d => tyP d
section
variable {Y : WX} {K : PySem.W.Frag} {C : Ctx} {W W' : Vw} {σ : L2.St} {H : Hp} {s : S} {Q : VK} {ca cb : M PV}
theorem tyP_in {d : PV} {t : String} (e : tyP d = some t) : t ∈ blts := by
  cases d <;> cases e <;> decide +kernel
theorem tyS_cases {d : PV} {t : String} (e : tyS s d = some t) : tyP d = some t ∨ ∃ n kvs, d = .hnd n ∧ s.sto[n]? = some (.dic kvs) ∧ t = "dict" := by
  unfold tyS at e
  split at e
  · rename_i n
    split at e
    · rename_i kvs hs
      exact .inr ⟨n, kvs, rfl, hs, (Option.some.inj e).symm⟩
    · cases e
  · exact .inl e
theorem tyS_in {d : PV} {t : String} (e : tyS s d = some t) : t ∈ blts := by
  rcases tyS_cases e with e | ⟨n, kvs, _, _, rfl⟩
  · exact tyP_in e
  · decide +kernel
theorem tyS_rep {d : PV} {v : V} {t : String} (a : At K C W s σ H) (r : Rep K W v d) (e : tyS s d = some t) : TyX K H v (.type t) := by
  rcases tyS_cases e with e | ⟨n, kvs, rfl, hs, rfl⟩
  · exact ty_rep a r e
  · cases r with
    | hnd hn =>
      cases (a.ok.live hn hs (fun z => nomatch z)).2 with
      | dic hH _ => exact .base (.dK hH)
theorem ins_ty {c : Str} {Cc a dx : Addr} {fs : List (Str × V)} (F : C8.InsC K Cc) (h : H a = some (.ins Cc dx fs)) : TyX K H (.ref a) (.ref Cc) := .base (.ins h F.cl F.ha F.hn F.htk F.hm)
/-- what isinstance against the class at D answers -/
structure IsoTab (K : PySem.W.Frag) (D : Addr) (tab : List (Str × Bool)) : Prop where
  own : ∀ c b, tab.lookup c = some b → ∃ C, ClsAt K c C ∧ C8.InsC K C ∧ PySem.W.kitOne K (.ref C) (.ref D) = some b
  blt : ∀ t ∈ blts, PySem.W.kitOne K (.type t) (.ref D) = some false
def isoM (tab : List (Str × Bool)) (d : PV) : M PV := fun s => match insOf s d with
  | some (c, _, _) => (match tab.lookup c with
    | some b => .ok (.bl b) s
    | none => .stk)
  | none => (match tyS s d with
    | some _ => .ok (.bl false) s
    | none => .stk)
theorem den_iso {D : Addr} {tab : List (Str × Bool)} (T : IsoTab K D tab) (h : den K Y (bnd ca (isoM tab)) σ H Q) : tCB (rIsi K) (tCons (den K Y ca) (tCons (tC (.ref D)) tNil)) σ H Q := by
  obtain ⟨C, W, s, at', p⟩ := h
  refine ⟨C, W, s, at', (Pst.bnd p).imp fun d s1 W1 H1 l1 at1 p1 v rv => ?_⟩
  unfold isoM at p1
  cases e : insOf s1 d with
  | some t =>
    obtain ⟨c, ks, vs⟩ := t
    simp only [e] at p1
    cases e2 : tab.lookup c with
    | none => simp only [e2] at p1; exact p1.elim
    | some b =>
      simp only [e2] at p1
      obtain ⟨a, Cc, dx, us, rfl, h1, h2, _, _⟩ := insOf_rep at1 rv e
      obtain ⟨C2, k1, k2, k3⟩ := T.own c b e2
      cases cls_uniq h1 k1
      exact ⟨.ref a, .ref D, .ref _, .ref D, b, rfl, .own D, ins_ty (c := c) k2 h2, k3, p1 W1 H1 (Vw.Le.refl _) at1 _ (.bl b)⟩
  | none =>
    simp only [e] at p1
    cases e2 : tyS s1 d with
    | none => simp only [e2] at p1; exact p1.elim
    | some t =>
      simp only [e2] at p1
      exact ⟨v, .ref D, .type t, .ref D, false, rfl, .own D, tyS_rep at1 rv e2, T.blt t (tyS_in e2), p1 W1 H1 (Vw.Le.refl _) at1 _ (.bl false)⟩
/-! ### == by an own def -/
end
end Dn
/-! Op3: the rules in short: ==, != of own instances; isinstance. -/
namespace Dn
open PySem L2 ClX StX PySem.Spec PyProof.Rows PySem.Calls
section
variable {Y : WX} {X : Cx} {k j n : Nat} {a b e : Expr} {ca cb : M PV} {pos p px : Pos} {tab : List (Str × Fn)} {rel : List ((Str × Str) × Bool)}
theorem xiso {c : Str} {D : Addr} {itab : List (Str × Bool)} (T : IsoTab X.K D itab) (hc : X.mg c = some (.ref D)) (hm : X.mg "isinstance" = none) (ha : PE X a (den X.K Y ca)) (hg : Gl X "isinstance" := by rfl) (hgc : Gl X c := by rfl) (hd : (c == ("__debug__" : Str)) = false := by decide)
    (h1 : starEach [a, .Name c p] X.env = (false, eval a X.env) :: starEach [.Name c p] X.env := by rfl) (h2 : starEach [.Name c p] X.env = (false, eval (.Name c p) X.env) :: starEach [] X.env := by rfl) (hpl : (backTo pos (starEach [.Name c p] X.env)).any (·.1) = false := by rfl) :
    PE X (.Call (.Name "isinstance" px) [a, .Name c p] [] pos) (den X.K Y (bnd ca (isoM itab))) :=
  pe_imp (pe_callB call_isi hg hm PyProof.Rows.Boot.«isinstance» (pa_cons ha (pa_cons (pe_glob hgc hc (show L2.RelV (.ref D) (.ref D) from rfl) hd) pa_nil h2) h1) (by decide) (by decide) h1 hpl) fun _ _ _ => den_iso T
end
end Dn
/-! Op4: str, f-strings, truth, items stored. -/
namespace Dn
open PySem L2 ClX StX PySem.Spec PyProof.Rows PySem.Calls
end Dn
/-! Op5: {}. -/
namespace Dn
open PySem L2 ClX StX PySem.Spec PyProof.Rows PySem.Calls
end Dn
/-! Fz: rows of isinstance, of == of own instances. -/
namespace Dn
open PySem L2 ClX StX NdefX PySem.Spec PyProof.Rows
section
variable {P : Program} {w : World} {K : PySem.W.Frag} {mg : Str → Option Value} {base : Heap} {k np n nn : Nat} {m qual x c c2 dn : Str} {st : Stmt} {ps ks : List Str} {body : Nat → M Fl} {b : Bool}
structure Blt7 (r : String → Prop) : Prop where
  a1 : r "NoneType"
  a2 : r "bool"
  a3 : r "int"
  a4 : r "str"
  a5 : r "tuple"
  a6 : r "list"
  a7 : r "dict"
theorem Blt7.all {r : String → Prop} (h : Blt7 r) : ∀ t ∈ blts, r t := by
  intro t ht
  simp only [List.mem_cons, List.not_mem_nil, or_false] at ht
  rcases ht with rfl | rfl | rfl | rfl | rfl | rfl | rfl
  · exact h.a1
  · exact h.a2
  · exact h.a3
  · exact h.a4
  · exact h.a5
  · exact h.a6
  · exact h.a7
theorem iso0 {D : Addr} (h : Blt7 fun t => PySem.W.kitOne K (.type t) (.ref D) = some false) : IsoTab K D [] := ⟨fun c b h => (by cases h), h.all⟩
theorem isoC {C D : Addr} {tab : List (Str × Bool)} (h1 : ClsAt K c C) (h2 : C8.InsC K C) (h3 : PySem.W.kitOne K (.ref C) (.ref D) = some b) (t : IsoTab K D tab) : IsoTab K D ((c, b) :: tab) := ⟨fun c' b' l => by
  rcases look_cons l with ⟨rfl, rfl⟩ | l
  · exact ⟨C, h1, h2, h3⟩
  · exact t.own _ _ l, t.blt⟩
end
end Dn
/-! Ev1: a caught exception that is kept as a value behind its try. -/
namespace Dn
open PySem L2 PySem.Spec PyProof.Rows PySem.Calls
theorem _root_.PySem.HandSPX.FlyingZ.keep {B h h' : Heap} {l : List PySem.Env} {a : Addr} {Z : Obj → Prop} (x : HandSPX.FlyingZ B l a Z h) (k : ∀ q o, h.get? q = some o → h'.get? q = some o) : HandSPX.FlyingZ B l a Z h' := by
  obtain ⟨k1, k2, k3, oe, vs, T, oT, ts, he, hz, hd, h1, hT, hne, hoT, hdT, h3⟩ := x
  exact ⟨fun b o e => k b o (k1 b o e), k2, Heap.FunFrames.of_keeps (fun b o e _ => ⟨o, k b o e, rfl⟩) k3, oe, vs, T, oT, ts, k _ _ he, hz, hd, h1, hT, hne, k _ _ hoT, hdT, h3⟩
end Dn
/-! Ev2: try .. except C as e: y = e; the kept exception's fields; isinstance of it; {"a": 1} as a value. -/
namespace Dn
open PySem L2 ClX StX PySem.Spec PyProof.Rows
section
variable {Y : WX} {K : PySem.W.Frag} {D : Ends} {σ : L2.St} {H : Hp} {tab : List (Str × Bool)} {fa fb : M Fl} {cv : Value} {C : Ctx} {W : Vw} {i j : Nat}
theorem At.del {s : S} (h : At K C W s σ H) (i : Nat) : At K C W { s with env := s.env.set i none } (σ.set i none) H := by
  have ne : ∀ {m : Nat} {sv : SV}, (s.env.set i none)[m]? = some (some sv) → i ≠ m := fun {m sv} he hm => by
    subst hm
    have hi : i < s.env.length := by
      have := (List.getElem?_eq_some_iff.mp he).1
      rwa [List.length_set] at this
    rw [List.getElem?_set_self hi] at he
    cases he
  refine ⟨h.ok, h.keep, h.pre, h.gro, by rw [List.length_set, List.length_set]; exact h.len, fun j e he => ?_, fun j ys he => ?_, fun j k ys zs a h1 h2 h3 h4 => ?_⟩
  · have n1 := ne he
    rw [List.getElem?_set_ne n1] at he ⊢
    exact h.val j e he
  · have n1 := ne he
    rw [List.getElem?_set_ne n1] at he ⊢
    exact h.own j ys he
  · have n1 := ne h1
    have n2 := ne h2
    rw [List.getElem?_set_ne n1] at h1 h3
    rw [List.getElem?_set_ne n2] at h2 h4
    exact h.dst j k ys zs a h1 h2 h3 h4
end
end Dn
/-! Ev3: a kept exception's fields; isinstance of it; {"a": 1} as a value and its repr. -/
namespace Dn
open PySem L2 ClX StX PySem.Spec PyProof.Rows
/-! ### e.f -/
end Dn
/-! Ev4: {} and {"a": 1} as values that never change. -/
namespace Dn
open PySem L2 ClX StX PySem.Spec PyProof.Rows PySem.Calls
end Dn
/-! Ev5: rows of kept exceptions. -/
namespace Dn
open PySem L2 ClX StX PySem.Spec PyProof.Rows
/-! ### isinstance(e, (A, B)) -/
end Dn
/-! St1: defs with a star parameter, classes made with one. -/
namespace Dn
open PySem L2 ClX StX PySem.Spec PyProof.Rows
/-- the promise of def f(a, .., *v), called by place: np values ahead of the star -/
structure FnGS (P : Program) (w : World) (K : PySem.W.Frag) (mg : Str → Option Value) (base : Heap) (CX : CXT) (k : Nat) (f : Addr) (np : Nat) (sp : Sp) : Prop where
  run : ∀ (A : Around) (outer : List PySem.Env) (s : Shared) (H : Hp) (us : List Value) (ws rest : List V) (Q : VK) (E : XK), A.guards = some [] → Room k A → Env0 P w K mg base A outer s H → Vals (ws ++ rest) us → ws.length = np → rest.length ≤ sizeLine →
    (∀ p, H p = none → sp (ws ++ [V.ref p]) (upd H p (.tup rest)) Q E) → codeAny (model P w) A (.call (.ref f) ⟨us, []⟩) (CR CX outer P w H s Q E) s
theorem FnGS.mono {P : Program} {w : World} {K : PySem.W.Frag} {mg : Str → Option Value} {base : Heap} {CX : CXT} {j k : Nat} {f : Addr} {np : Nat} {sp : Sp} (F : FnGS P w K mg base CX j f np sp) (h : j ≤ k) : FnGS P w K mg base CX k f np sp :=
  ⟨fun A outer s H us ws rest Q E hg hr => F.run A outer s H us ws rest Q E hg (hr.mono h)⟩
section
variable {CX : CXT} {P : Program} {w : World} {K : PySem.W.Frag} {mg : Str → Option Value} {base : Heap} {k : Nat} {f : Addr} {name qual pv : Str} {params : Arguments} {body : List Stmt} {scope : Scope} {dV kV doc pm cdv ct oc : Value} {an od : Option Addr}
  {osl : Array (Option Value)} {N ps : List Str} {sp : Sp}
theorem fn_starG (lk : K.lookup f = some ⟨oc, od, .func (PySem.W.fnOf name qual params body scope dV kV doc pm an cdv ct), osl⟩) (hcd : PySem.W.codeIn K cdv qual = true) (S : FnScope N (ps ++ [pv]) scope) (hCX : CXUp CX)
    (hb : ∀ us rest : List Value, us.length = ps.length → bindArgs (PySem.W.fnOf name qual params body scope dV kV doc pm an cdv ct) ⟨us ++ rest, []⟩ = (newTuple rest >>= fun t => pure (ps.zip us ++ [(pv, t)])))
    (hbody : ∀ (A : Around) (outer : List PySem.Env) (s : Shared) (H : Hp) (vs : List V) (Q : VK) (E : XK), (A.deeper (envOfC qual scope s.heap.objs.size f cdv)).guards = some [] → Room k (A.deeper (envOfC qual scope s.heap.objs.size f cdv)) → sp vs H Q E →
      ∃ t, PSs (cxOf CX P w K mg base N qual scope f cdv A outer s H E) body t ∧ t { nx := fun _ H' => Q .non H', rt := Q } (L2.start N vs) H) : FnGS P w K mg base CX (k + 1) f ps.length sp := by
  refine ⟨fun A outer s H us ws rest Q E hgd hr e0 r hl hz hq => ?_⟩
  obtain ⟨u1, u2, eu, r1, r2⟩ := vals_split r
  subst eu
  have hn : H s.heap.objs.size = Option.none := e0.hok.fresh (Nat.le_refl _)
  have hl1 : u1.length = ps.length := by rw [← r1.length]; exact hl
  have hl2 : u2.length ≤ sizeLine := by rw [← r2.length]; exact hz
  refine run_bnd (G := fun xs H2 => (A.guards = some []) ∧ ∃ p, H p = Option.none ∧ xs = ws ++ [V.ref p] ∧ H2 = upd H p (.tup rest)) lk hcd S hr e0 (fun A' Ex Q' h => ?_) fun s2 H2 xs ⟨hgd2, p, hp, ex, eH⟩ hr' => ?_
  · rw [hb u1 u2 hl1]
    refine wpAny_bind (wpAny_newTuple (wpAny_pure ?_) hl2)
    have new : ObjOk P w (upd H s.heap.objs.size (.tup rest)) (s.heap.push ({ cls := .type "tuple", data := .seq u2.toArray } : Obj)) s.heap.objs.size (.tup rest) := ⟨hz, u2, r2, ⟨_, Heap.get?_push_size _ rfl, rfl, _, rfl⟩⟩
    have un := un_laid (fs := frs outer) (s := s) (o := ({ cls := .type "tuple", data := .seq u2.toArray } : Obj)) (u := .tup rest) hn
    have z := h _ _ (ws ++ [V.ref s.heap.objs.size]) (u1 ++ [Value.ref s.heap.objs.size]) (env0_laid e0 new) un rfl (fun e s' => hCX outer s H _ _ E e s' un (fun b o q => Heap.get?_push_of_some _ q) rfl) (r1.append (.cons rfl .nil))
      (by rw [List.length_append, List.length_append, hl] <;> rfl) ⟨hgd, _, hn, rfl, rfl⟩
    rw [List.zip_append hl1.symm] at z
    exact z
  · subst ex eH
    exact hbody A outer s2 _ _ Q E hgd2 hr' (hq p hp)
end
end Dn
/-! St2: a class made where __init__ has a star parameter. -/
namespace Dn
open PySem L2 ClX StX PySem.Spec PyProof.Rows
section
variable {Y : WX} {X : Cx} {k : Nat} {f g C : Addr} {x m : Str} {p pos : Pos} {e : Expr} {es : List Expr} {t : TA} {np n i : Nat} {mf : Fn} {ca : M (List PV)} {σ : L2.St} {H : Hp} {Q : VK}
def tMakeSG (X : Cx) (Y : WX) (C : Addr) (i np : Nat) (mf : Fn) (t : TA) : TE := fun σ H Q => t σ H fun vs H1 => ∃ ws rest, vs = ws ++ rest ∧ ws.length = i ∧ rest.length ≤ sizeLine ∧
  ∀ x dx, H1 x = none → H1 dx = none → dx ≠ x → ∀ p, (upd (upd H1 dx (.own x)) x (.ins C dx [])) p = none → spM X.K np mf (.ref x :: (ws ++ [.ref p])) (upd (upd (upd H1 dx (.own x)) x (.ins C dx [])) p (.tup rest)) (fun v H3 => v = .non ∧ Q (.ref x) H3) (WE Y σ)
theorem run_makeSG {pins : List (Addr × Obj)} {s : Shared} {us : List Value} {ws rest : List V} (M : Mk X.K C f) (F : FnGS X.prog X.w X.K X.mg X.base (L2.CX X.prog X.w) k f (i + 1) (spM X.K np mf)) (hgd : X.A.guards = some []) (hr : Room (k + 1) X.A) (tY : Takes X Y)
    (I : Inv X pins σ H s) (r : Vals (ws ++ rest) us) (l1 : ws.length = i) (lz : rest.length ≤ sizeLine)
    (h : ∀ x dx, H x = none → H dx = none → dx ≠ x → ∀ p, (upd (upd H dx (.own x)) x (.ins C dx [])) p = none → spM X.K np mf (.ref x :: (ws ++ [.ref p])) (upd (upd (upd H dx (.own x)) x (.ins C dx [])) p (.tup rest)) (fun v H3 => v = .non ∧ Q (.ref x) H3) (WE Y σ)) :
    wpAny (model X.prog X.w) X.A (call (.ref C) us []) (EP X pins σ Q) X.xe s := by
  have n0 : H s.heap.objs.size = none := I.hok.fresh (Nat.le_refl _)
  have n1 : H (s.heap.objs.size + 1) = none := I.hok.fresh (Nat.le_succ _)
  have want := h (s.heap.objs.size + 1) s.heap.objs.size n1 n0 (Nat.ne_of_lt (Nat.lt_succ_self _))
  have J := Inv.made (C := C) I
  have rS : Vals ((V.ref (s.heap.objs.size + 1) :: ws) ++ rest) (Value.ref (s.heap.objs.size + 1) :: us) := .cons rfl r
  have go := F.run _ X.stack _ _ (Value.ref (s.heap.objs.size + 1) :: us) _ _ _ _ (guards_under hgd) (hr.make C us []) (J.env0.make C us []) rS (by rw [List.length_cons, l1]) lz want
  refine wpAny_call (make_map (f := f) I.kIn M.makes M.init (beq_iff_eq.mp M.fn) ?_)
  refine codeAny_mono go fun res s' hq => ?_
  match res, hq with
  | .error e, hq => exact passAt tY σ pins _ _ e s' J hq
  | .ok (.ret u), hq =>
    obtain ⟨v, H', J', rv, ev, q'⟩ := J.after hq
    subst ev
    exact ⟨rv, V.ref (s.heap.objs.size + 1), H', J', rfl, q'⟩
  | .ok .next, hq => exact False.elim hq
  | .ok .brk, hq => exact False.elim hq
  | .ok .cont, hq => exact False.elim hq
theorem pe_makeSG (M : Mk X.K C f) (F : FnGS X.prog X.w X.K X.mg X.base (L2.CX X.prog X.w) k f (i + 1) (spM X.K np mf)) (hgd : X.A.guards = some []) (hr : Room (k + 1) X.A) (tY : Takes X Y) (hg : Gl X x) (hm : X.mg x = some (.ref C)) (ha : PA X (e :: es) t) (hdb : (x == ("__debug__" : Str)) = false := by decide)
    (he : starEach (e :: es) X.env = (false, eval e X.env) :: starEach es X.env := by rfl) :
    PE X (.Call (.Name x p) (e :: es) [] pos) (tMakeSG X Y C i np mf t) := by
  refine ⟨fun pins s σ H Q I h => wpAny_Call_Name_kw (ld_glob I hg hm ?_ hdb)⟩
  refine callWith_KA M.kp rfl (thn (ha.run pos pins s σ H _ I h) ?_) he
  rintro us s1 ⟨vs, H1, I1, r, ws, rest, ev, l1, lz, q⟩
  subst ev
  show wpAny _ _ (evalAll []) _ _ _
  refine wpAny_pure ?_
  exact ⟨I1.kIn, run_makeSG M F hgd hr tY I1 r l1 lz q⟩
end
/-- the values ahead of the star, the rest as a tuple -/
def starA (i : Nat) (ca : M (List PV)) : M (List PV) := bnd ca fun ds => if i ≤ ds.length ∧ ds.length - i ≤ sizeLine then ret (ds.take i ++ [.tup (ds.drop i)]) else stuck
theorem den_makeS {X : Cx} {Y : WX} {Cc : Addr} {c : Str} {i np n : Nat} {mf : Fn} {ca : M (List PV)} {σ : L2.St} {H : Hp} {Q : VK} (hc : ClsAt X.K c Cc) (hl : ∀ n ds st, mf n ds st ≠ .stk → ds.length = np)
    (h : den X.K Y (makeM c mf n (starA i ca)) σ H Q) : tMakeSG X Y Cc i np mf (denA X.K Y ca) σ H Q := by
  obtain ⟨C, W, s, at', p⟩ := h
  have p0 := Pst.bnd (Pst.bnd p)
  refine ⟨C, W, s, at', p0.imp fun ds s2 W2 H2 l2 a2 p1 vs r => ?_⟩
  by_cases hi : i ≤ ds.length ∧ ds.length - i ≤ sizeLine
  · rw [if_pos hi] at p1
    have p2 := p1 W2 H2 (Vw.Le.refl _) a2
    refine ⟨vs.take i, vs.drop i, (List.take_append_drop i vs).symm, by rw [List.length_take, r.length]; omega, by rw [List.length_drop, r.length]; exact hi.2, fun x dx hx hd ne p hp => ?_⟩
    obtain ⟨le, a3, rx⟩ := a2.newI hx hd ne hc
    obtain ⟨W4, l4, a4, rt⟩ := a3.layT hp ((r.drop i).mono le)
    have hlen : s2.sto.length = W2.hs.length := a2.ok.len
    have hkx : (W2.hs ++ [x, dx])[s2.sto.length]? = some x := by rw [hlen]; exact two_0
    have hkx4 : W4.hs[s2.sto.length]? = some x := l4.pre _ _ hkx
    have le4 : W2.Le W4 := le.trans l4
    have rep : Reps X.K W4 (.ref x :: (vs.take i ++ [.ref p])) (.hnd s2.sto.length :: (ds.take i ++ [.tup (ds.drop i)])) := .cons (rx.mono l4) (((r.take i).mono le4).append (.cons rt .nil))
    have len : ∀ {z : RR}, mf n (.hnd s2.sto.length :: (ds.take i ++ [.tup (ds.drop i)])) (s2.sto ++ [.ins c [] [], .own s2.sto.length]) = z → z ≠ .stk → (V.ref x :: (vs.take i ++ [.ref p])).length = np := fun {z} e q => by rw [rep.length]; exact hl _ _ _ (by rw [e]; exact q)
    cases e : mf n (.hnd s2.sto.length :: (ds.take i ++ [.tup (ds.drop i)])) (s2.sto ++ [.ins c [] [], .own s2.sto.length]) with
    | stk => simp only [e] at p2; exact p2.elim
    | exc z st' =>
      simp only [e] at p2
      refine ⟨len e (fun z => nomatch z), n, _, _, _, a4.ok, rep, ?_⟩
      rw [e]
      exact fun W' H' cls d l ok g r => p2 W' σ H' cls d (le4.trans l) (a4.call l ok g) r
    | ok d st' =>
      simp only [e] at p2
      cases d <;> try exact p2.elim
      refine ⟨len e (fun z => nomatch z), n, _, _, _, a4.ok, rep, ?_⟩
      rw [e]
      intro v W' H' l ok g rv
      cases rv
      refine ⟨rfl, ?_⟩
      have a5 := a4.call l ok g
      have hx' : W'.hs[s2.sto.length]? = some x := l.pre _ _ hkx4
      dsimp only at p2
      split at p2
      · rename_i c' ks' vs' j e1 e2
        split at p2
        · rename_i hj
          subst hj
          obtain ⟨W5, l5, a6, r5⟩ := a5.done (by rw [hlen]; exact a2.hs_le) hx' e1 e2
          exact p2 W5 H' (le4.trans (l.trans l5)) a6 _ r5
        · exact p2.elim
      · exact p2.elim
  · rw [if_neg hi] at p1
    exact p1.elim
end Dn
/-! St3: for a, b in .., enumerate over tuples and lists. -/
namespace PySem
open Sem (wp)
set_option maxHeartbeats 1000000 in
theorem dn_meets_enum {v : Value} {o : Obj} {H : Heap → Prop} (B : Begins v o H) :
    Meets (Builtin.«enumerate.__new__» ⟨[.type "enumerate", v], []⟩) (fun _ R s => H s.heap ∧
      R (.ok (.ret (.ref (s.heap.push o).objs.size))) { s with heap := (s.heap.push o).push { cls := .type "enumerate", data := .fields #[.none, .bool false, .ref s.heap.objs.size, rawInt 0, .none, .none] } }) :=
  .of_wp fun prog w A R s h => by
    obtain ⟨hp, g, d, tk, os⟩ := s; obtain ⟨h1, h⟩ := h
    have hsub := sub_enumerate
    have q1 : ∀ {A' : Around} {E : Value → Shared → Prop} {Q : Value → Shared → Prop}, Q (.ref hp.objs.size) ⟨hp.push o, g, d, tk, os⟩ → wpAny (model prog w) A' (pyIter v) Q E ⟨hp, g, d, tk, os⟩ :=
      fun q => B.iter prog w _ _ ⟨hp, g, d, tk, os⟩ _ h1 q
    wp_walk using q1
    refine wpAny_stack_any fun st => wpAny_pure ?_
    split
    · rename_i c _ _ _ _ _
      cases (c == Value.type "enumerate")
      · wp_walk using q1
        exact ⟨_, rfl, h⟩
      · wp_walk using q1
        exact ⟨_, rfl, h⟩
    · wp_walk using q1
      exact ⟨_, rfl, h⟩
theorem dn_call_enum {prog : Program} {w : World} {A : Around} {E : Value → Shared → Prop} {s : Shared} {v : Value} {o : Obj} {H : Heap → Prop} {Q : Value → Shared → Prop} (B : Begins v o H) (h1 : H s.heap)
    (h : ∀ h', IsEnum h' (s.heap.objs.size + 1) s.heap.objs.size 0 .none → h'.get? s.heap.objs.size = some o → h'.objs.size = s.heap.objs.size + 2 →
      (∀ b o, s.heap.get? b = some o → h'.get? b = some o) → Q (.ref (s.heap.objs.size + 1)) { s with heap := h' }) :
    wpAny (model prog w) A (call (.type "enumerate") [v]) Q E s := by
  refine callType_new F.called_enumerate (by decide) (F.typeCall_enumerate_1 _) (F.newCall_enumerate_1 _) (fun obj => F.args_object_init_2 obj _) F.entry_enumerate_new
    (dn_meets_enum B) ⟨h1, ?_⟩
  have hz : (s.heap.push o).objs.size = s.heap.objs.size + 1 := Heap.size_push ..
  show _ ∧ _
  rw [hz]
  have he : IsEnum ((s.heap.push o).push { cls := .type "enumerate", data := .fields #[.none, .bool false, .ref s.heap.objs.size, rawInt 0, .none, .none] }) (s.heap.objs.size + 1) s.heap.objs.size 0 .none := by
    have := Heap.get?_push_size (s.heap.push o) (o := { cls := .type "enumerate", data := .fields #[.none, .bool false, .ref s.heap.objs.size, rawInt 0, .none, .none] }) rfl
    rw [hz] at this; exact this
  refine ⟨⟨_, he, rfl⟩, h _ he (Heap.get?_push_of_some _ (Heap.get?_push_size _ B.free)) (by rw [Heap.size_push, hz]) fun b o x => Heap.get?_push_of_some _ (Heap.get?_push_of_some _ x)⟩
end PySem
namespace Dn
open PySem L2 ClX StX PySem.Spec PyProof.Rows
/-- the tuple at a, each item in a new pair -/
def IteT (K : PySem.W.Frag) (a : Addr) : It :=
  ⟨fun i H => ∃ (xs : List V) (x : V), SqT K H a xs ∧ xs[i]? = some x, fun i H v H' => ∃ T x, v = .ref T ∧ H T = none ∧ H' = upd H T (.tup [.int (i : Nat), x]) ∧ ∀ xs, SqT K H a xs → xs[i]? = some x, fun i H => ∃ xs : List V, SqT K H a xs ∧ xs.length ≤ i⟩
theorem turn_enumT {P : Program} {w : World} {K : PySem.W.Frag} {elts : List Expr} {kk : Nat} {tpos : Pos} (a e it : Addr) :
    Turn P w K (.Tuple elts kk tpos) (IteT K a) [e, it] e (fun i h => (∃ old, IsEnum h e it ((i : Nat) : Int) old) ∧ h.IsTupleIter it a i ∧ e ≠ it) where
  mem := by simp
  obj := fun i h st b hb => by
    obtain ⟨⟨old, he⟩, ⟨o, ho, hc, hd⟩, _⟩ := st
    have e' : b = e ∨ b = it := by simpa using hb
    rcases e' with z | z
    · rw [z]; exact ⟨_, he, fun v q => nomatch q⟩
    · rw [z]; exact ⟨o, ho, fun v q => by rw [hd] at q; cases q⟩
  keep := fun i h h' st k => let ⟨⟨old, he⟩, hi, hne⟩ := st; ⟨⟨old, k e (by simp) _ he⟩, hi.at fun o q => k it (by simp) o q, hne⟩
  item := by
    intro X hP hw hK hc i pins s σ H E I hf st hg
    subst hP hw hK
    obtain ⟨⟨old, he⟩, hit, hne⟩ := st
    obtain ⟨xs, x, hq, hx⟩ := hg
    obtain ⟨its, rv, p, hz⟩ := I.tuple hq
    obtain ⟨u, hu, ru⟩ := rv.get hx
    have hel : e < s.heap.objs.size := Heap.lt_size he
    have hil : it < s.heap.objs.size := by obtain ⟨_, q, _⟩ := hit; exact Heap.lt_size q
    have hh : X.A.in1.handled = none := I.ok.hd hc
    have pt : s.heap.IsTuple a its.toArray := p
    have hai : a ≠ it := fun z => by
      obtain ⟨o1, h1, c1, d1⟩ := hit
      obtain ⟨o2, h2, c2, _⟩ := pt
      rw [z, h1] at h2
      cases h2
      rw [c1] at c2
      exact absurd c2 (by decide)
    have hae : e ≠ a := fun z => by
      obtain ⟨o2, h2, c2, _⟩ := pt
      have he' : s.heap.get? e = _ := he
      rw [z, h2] at he'
      cases he'
      have c3 : Value.type "enumerate" = Value.type "tuple" := c2
      exact absurd c3 (by decide)
    have hlt : i < its.toArray.size := by
      have := (List.getElem?_eq_some_iff.mp hu).1
      simpa using this
    refine wpAny_pyNext_enum_itemD (Draws.tuple hh it a hai its.toArray) he ⟨hit, pt⟩ hlt hne (by simp only [List.mem_cons, not_or]; exact ⟨hne, hae, fun z => nomatch z⟩) fun y h' tk hy ho hit' hT hsz hk => ?_
    have ey : y = u := by
      have hy : its.toArray[i]? = some y := hy
      rw [List.getElem?_toArray, hu] at hy
      exact (Option.some.inj hy).symm
    subst ey
    refine ⟨_, rfl, wpAny_letOwnedTupleGo_enum (s := { s with heap := h', toks := tk + 1 }) ho fun h'' he' sb => ?_⟩
    have hT2 : h''.get? s.heap.objs.size = some { cls := .type "tuple", data := .seq #[.int i tk, y] } := (sb.2 _ (Nat.ne_of_gt hel)).trans hT
    have new : ObjOk X.prog X.w (upd H s.heap.objs.size (.tup [.int (i : Nat), x])) h'' s.heap.objs.size (.tup [.int (i : Nat), x]) :=
      ⟨by show 2 ≤ sizeLine; decide, [.int i tk, y], .cons ⟨_, rfl⟩ (.cons ru .nil), ⟨_, hT2, rfl, _, rfl⟩⟩
    have I1 : Inv X pins σ (upd H s.heap.objs.size (.tup [.int (i : Nat), x])) { s with heap := h'', toks := tk + 1 } :=
      I.turnedNew (ch := [e, it]) (fun b ob hb q => (sb.2 b (fun z => hb (by simp [z]))).trans (hk b ob (fun z => hb (by simp [z])) (fun z => hb (by simp [z])) q)) hf (Nat.le_refl _) new
    refine ⟨.ref s.heap.objs.size, _, I1, rfl, ⟨_, x, rfl, I.hok.fresh (Nat.le_refl _), rfl, fun ys hy => by rw [I.tuple_inj hy hq]; exact hx⟩, ⟨⟨y, ?_⟩, hit'.1.at fun o q => (sb.2 it (Ne.symm hne)).trans q, hne⟩, fun b hb => ?_⟩
    · have e1 : ((i + 1 : Nat) : Int) = (i : Int) + 1 := by omega
      rw [e1]; exact he'
    · have hb' : b < s.heap.objs.size := by
        have e' : b = e ∨ b = it := by simpa using hb
        rcases e' with z | z
        · rw [z]; exact hel
        · rw [z]; exact hil
      rw [upd_ne (Nat.ne_of_lt hb')]
      exact (hf b hb).1
  done := by
    intro X hP hw hK hc i pins s σ H E I hf st hg
    subst hP hw hK
    obtain ⟨⟨old, he⟩, hit, hne⟩ := st
    obtain ⟨xs, hq, hx⟩ := hg
    obtain ⟨its, rv, p, hz⟩ := I.tuple hq
    obtain ⟨f0, f1, f2, f3, f4, f5⟩ := hf it (by simp)
    have hl := rv.length
    have hh : X.A.in1.handled = none := I.ok.hd hc
    have pt : s.heap.IsTuple a its.toArray := p
    have hT : s.TypeIs (.ref e) "enumerate" := ⟨_, he, rfl⟩
    unfold pyNext
    refine wpAny_bind (wpAny_attempt (wpAny_callSpecial?_slot (name := Str.ofString "__next__") hT F.slot_enumerate_next
      (wpAny_call_entry F.slot_enumerate_next hT F.entry_enumerate_next ?_ (F.args_enumerate_next_1 _))))
    show wpAny _ _ (field (.ref e) 2 >>= _) _ _ _
    refine wpAny_bind (wpAny_field he rfl (x := .ref it) rfl ?_)
    refine wpAny_bind (wpAny_nextOf_tuple_end hh hit pt (by simp; omega) fun h' x he' hx' => ?_)
    obtain ⟨o, ho, hc'⟩ := hx'
    refine wpAny_bind (wpAny_isInstance (T := "StopIteration") (b := true) ⟨o, ho, hc'⟩ isSubtype_stop ?_)
    exact wpAny_pure ⟨rfl, I.turned (t' := s.toks) (fun b o hb q => he' b o hb q) f0 f1 f3 f4 f5⟩
  self := fun A i s Q E st h => let ⟨⟨_, he⟩, _⟩ := st; wpAny_pyIter_enum he h
def iEnumT (K : PySem.W.Frag) (ta : TA) : TI := fun σ H R => ta σ H fun vs H1 => ∃ a xs, vs = [.ref a] ∧ SqT K H1 a xs ∧ R (IteT K a) H1
theorem pi_enumT {X : Cx} {e : Expr} {ta : TA} {p pos tpos : Pos} {elts : List Expr} {kk : Nat} (hg : Gl X "enumerate") (hm : X.mg "enumerate" = none) (ha : PA X [e] ta) (hs : starEach [e] X.env = [(false, eval e X.env)] := by rfl) :
    PI X (.Tuple elts kk tpos) (.Call (.Name "enumerate" p) [e] [] pos) (iEnumT X.K ta) := by
  refine ⟨fun pins s σ H R I h => ?_⟩
  refine Call_ (ld_blt I hg hm boot_enumerate (PyProof.Rows.callWith_type1 (thn (ha.run pos pins s σ H _ I h) fun us s1 ⟨vs, H1, I1, r1, q1⟩ => ?_) hs rfl))
  obtain ⟨a, xs, ex, hq, q⟩ := q1
  subst ex
  cases r1 with
  | cons r rr =>
    cases rr
    cases r
    obtain ⟨its, rv, p', hz⟩ := I1.tuple hq
    have pt : s1.heap.IsTuple a its.toArray := p'
    refine dn_call_enum (begins_tuple a its.toArray) pt fun h' he hit hsz hk => wpAny_pyIter_enum he ?_
    have I2 : Inv X pins σ H1 { s1 with heap := h' } := I1.kept (t' := s1.toks) hk
    refine ⟨s1.heap.objs.size + 1, [s1.heap.objs.size + 1, s1.heap.objs.size], _, _, H1, rfl, I2, turn_enumT a (s1.heap.objs.size + 1) s1.heap.objs.size, ⟨⟨.none, he⟩, ⟨_, hit, rfl, rfl⟩, Nat.succ_ne_self _⟩, fun b hb => ?_, q⟩
    have e' : b = s1.heap.objs.size + 1 ∨ b = s1.heap.objs.size := by simpa using hb
    have hle : s1.heap.objs.size ≤ b := by
      rcases e' with z | z
      · rw [z]; exact Nat.le_add_right _ _
      · rw [z]; exact Nat.le_refl _
    exact I1.fpOk hle (I1.hok.fresh hle)
/-! ### enumerate as a source -/
section
variable {Y : WX} {K : PySem.W.Frag} {C : Ctx} {W W' : Vw} {σ : L2.St} {H : Hp} {s : S} {D : Ends} {ca : M PV} {fa : M Fl}
def enumL : Nat → List PV → List PV
  | _, [] => []
  | k, x :: r => .tup [.int (k : Nat), x] :: enumL (k + 1) r
theorem enumL_length : ∀ (xs : List PV) (k : Nat), (enumL k xs).length = xs.length
  | [], _ => rfl
  | _ :: r, k => congrArg Nat.succ (enumL_length r (k + 1))
theorem enumL_get : ∀ (xs : List PV) (k i : Nat) (d : PV), xs[i]? = some d → (enumL k xs)[i]? = some (.tup [.int ((k + i : Nat)), d])
  | [], _, i, _, h => by simp at h
  | x :: r, k, 0, d, h => by
    simp at h
    subst h
    rfl
  | x :: r, k, i + 1, d, h => by
    have h : r[i]? = some d := by simpa using h
    show (enumL (k + 1) r)[i]? = _
    rw [enumL_get r (k + 1) i d h]
    have : k + 1 + i = k + (i + 1) := by omega
    rw [this]
def enumP : PV → Option (List PV)
  | .lst xs => some (enumL 0 xs)
  | .tup xs => some (enumL 0 xs)
  | _ => none
def enumM (c : M PV) : M (List PV) := bnd c fun d => lft (enumP d)
theorem walks_enum {a : Addr} {vs : List V} {ds : List PV} (h : W.F a = some (.lst vs)) (r : Reps K W vs ds) : Walks K (Ite K a) W (enumL 0 ds) where
  go := fun {C W' s σ H i} l at' hi => by
    rw [enumL_length] at hi
    have e := at'.ok.sub _ _ (l.ex _ _ h)
    have hi' : i < vs.length := by rw [r.length]; exact hi
    exact ⟨vs, vs[i], SqL.of e, List.getElem?_eq_getElem hi'⟩
  yld := fun {C W' s σ H H' i x} l at' hi y => by
    obtain ⟨T, z, rfl, hT, rfl, hz⟩ := y
    have e := at'.ok.sub _ _ (l.ex _ _ h)
    have hx := hz vs (SqL.of e)
    obtain ⟨d, h1, h2⟩ := r.getV hx
    obtain ⟨W2, l2, a2, r2⟩ := at'.layT hT (Reps.cons (.int (i : Nat)) (.cons (h2.mono l) .nil))
    exact ⟨_, W2, (by rw [enumL_get ds 0 i d h1, Nat.zero_add]), l2, a2, r2⟩
  stop := fun {C W' s σ H i} l at' hi => ⟨vs, SqL.of (at'.ok.sub _ _ (l.ex _ _ h)), by rw [enumL_length] at hi; rw [r.length]; exact hi⟩
theorem walks_enumT {a : Addr} {vs : List V} {ds : List PV} (h : SqT K W.F a vs) (r : Reps K W vs ds) : Walks K (IteT K a) W (enumL 0 ds) where
  go := fun {C W' s σ H i} l at' hi => by
    rw [enumL_length] at hi
    have e := same_t at'.ok.sub (same_t l.ex h)
    have hi' : i < vs.length := by rw [r.length]; exact hi
    exact ⟨vs, vs[i], e, List.getElem?_eq_getElem hi'⟩
  yld := fun {C W' s σ H H' i x} l at' hi y => by
    obtain ⟨T, z, rfl, hT, rfl, hz⟩ := y
    have e := same_t at'.ok.sub (same_t l.ex h)
    have hx := hz vs e
    obtain ⟨d, h1, h2⟩ := r.getV hx
    obtain ⟨W2, l2, a2, r2⟩ := at'.layT hT (Reps.cons (.int (i : Nat)) (.cons (h2.mono l) .nil))
    exact ⟨_, W2, (by rw [enumL_get ds 0 i d h1, Nat.zero_add]), l2, a2, r2⟩
  stop := fun {C W' s σ H i} l at' hi => ⟨vs, same_t at'.ok.sub (same_t l.ex h), by rw [enumL_length] at hi; rw [r.length]; exact hi⟩
def iEn (K : PySem.W.Frag) (ta : TA) : TI := fun σ H R => iEnum K ta σ H R ∨ iEnumT K ta σ H R
theorem src_enum : SrcOk Y (iEn K (tCons (den K Y ca) tNil)) K (enumM ca) := by
  intro σ H R ⟨C, W, s, at', p⟩
  have p := Pst.bnd p
  cases e : ca s with
  | exc _ _ => exact .inl ⟨C, W, s, at', by rw [e] at p ⊢; exact p⟩
  | stk => rw [e] at p; exact p.elim
  | ok d s1 =>
    cases d with
    | lst xs =>
      refine .inl ⟨C, W, s, at', ?_⟩
      rw [e] at p ⊢
      intro W1 H1 l1 at1 v rv
      have p1 := p W1 H1 l1 at1 W1 H1 (Vw.Le.refl _) at1
      cases rv with
      | lst hx rx => exact ⟨_, _, rfl, SqL.of (at1.ok.sub _ _ hx), p1 _ (walks_enum hx rx)⟩
    | tup xs =>
      refine .inr ⟨C, W, s, at', ?_⟩
      rw [e] at p ⊢
      intro W1 H1 l1 at1 v rv
      have p1 := p W1 H1 l1 at1 W1 H1 (Vw.Le.refl _) at1
      cases rv with
      | tup hx rx => exact ⟨_, _, rfl, same_t at1.ok.sub hx, p1 _ (walks_enumT hx rx)⟩
    | _ =>
      refine .inl ⟨C, W, s, at', ?_⟩
      rw [e] at p ⊢
      intro W1 H1 l1 at1
      exact (p W1 H1 l1 at1).elim
theorem ienum {X : Cx} {e : Expr} {ce : M PV} {p pos tpos : Pos} {elts : List Expr} {kk : Nat} (hm : X.mg "enumerate" = none) (h : PE X e (den X.K Y ce)) (hg : Gl X "enumerate" := by rfl) (hs : starEach [e] X.env = [(false, eval e X.env)] := by rfl) :
    PI X (.Tuple elts kk tpos) (.Call (.Name "enumerate" p) [e] [] pos) (iEn X.K (tCons (den X.K Y ce) tNil)) := ⟨fun pins s σ H R I q => by
  rcases q with q | q
  · exact (pi_enum hg hm (pa_cons h pa_nil hs) hs).run pins s σ H R I q
  · exact (pi_enumT hg hm (pa_cons h pa_nil hs) hs).run pins s σ H R I q⟩
/-! ### for a, b in .. -/
def forU (is : List Nat) (body : M Fl) : List PV → M Fl
  | [] => ret .nx
  | .tup ds :: r => fun s => if ds.length = is.length then (match setAll is ds s with
    | .ok .nx s1 => (match body s1 with
      | .ok .nx s' => forU is body r s'
      | .ok .ct s' => forU is body r s'
      | .ok .bk s' => .ok .nx s'
      | .ok (.rt d) s' => .ok (.rt d) s'
      | .exc e s' => .exc e s'
      | .stk => .stk)
    | _ => .stk) else .stk
  | _ :: _ => stuck
def loopU (cs : M (List PV)) (is : List Nat) (body : M Fl) : M Fl := bnd cs fun xs => forU is body xs
theorem den_setAllQ {Q : L2.St → Hp → Prop} : ∀ (is : List Nat) (ds : List PV) {C : Ctx} {W : Vw} {s : S} {σ : L2.St} {H : Hp} {vs : List V}, At K C W s σ H → Reps K W vs ds → (match setAll is ds s with | .ok .nx s1 => ∀ σ', At K C W s1 σ' H → Q σ' H | _ => False) → gNs is vs σ H Q
  | [], [], C, W, s, σ, H, vs, a, r, p => by
    cases r
    exact ⟨rfl, p σ a⟩
  | i :: is, d :: ds, C, W, s, σ, H, vs, a, r, p => by
    cases r with
    | cons r rs => exact ⟨_, _, rfl, den_setAllQ is ds (a.set r i) rs p⟩
  | [], _ :: _, _, _, _, _, _, _, _, _, p => p.elim
  | _ :: _, [], _, _, _, _, _, _, _, _, p => p.elim
theorem den_forU {wi : TI} {is : List Nat} {cs : M (List PV)} (hw : SrcOk Y wi K cs) (h : denS K Y (loopU cs is fa) D σ H) : tFor wi (gTup K is.length (gNs is)) (denS K Y fa) D σ H := by
  obtain ⟨C, W, s, at', p⟩ := h
  refine hw σ H _ ⟨C, W, s, at', (PstS.bnd p).imp fun xs s1 W1 H1 l1 at1 p1 J wk => ?_⟩
  refine ⟨fun k m σ H => k ≤ xs.length ∧ m = xs.length - k ∧ ∃ s2 W2, W1.Le W2 ∧ At K (C.wi Y) W2 s2 σ H ∧ PstS K (C.wi Y) W2 D (forU is fa (xs.drop k) s2), ⟨xs.length, Nat.zero_le _, by simp, s1, W1, Vw.Le.refl _, at1, p1⟩, ?_⟩
  rintro k m σ2 H2 ⟨hk, rfl, s2, W2, l2, at2, p2⟩
  by_cases hlt : k < xs.length
  · refine .inr ⟨wk.go l2 at2 hlt, fun σ' H' => ∃ s2 W2, W1.Le W2 ∧ At K (C.wi Y) W2 s2 σ' H' ∧ PstS K (C.wi Y) W2 D (forU is fa (xs.drop (k + 1)) s2), fun σ' H' q => ⟨xs.length - (k + 1), by omega, hlt, rfl, q⟩, fun x H' y => ?_⟩
    obtain ⟨d, W3, hd, l3, at3, rd⟩ := wk.yld l2 at2 hlt y
    have hdrop : xs.drop k = d :: xs.drop (k + 1) := by
      obtain ⟨h1, h2⟩ := List.getElem?_eq_some_iff.mp hd
      rw [List.drop_eq_getElem_cons h1, h2]
    rw [hdrop] at p2
    have p3 := p2.up l3
    cases d with
    | tup ds =>
      unfold forU at p3
      by_cases hl : ds.length = is.length
      · simp only [hl, if_true] at p3
        cases rd with
        | tup hq rs =>
          refine ⟨_, _, rfl, same_t at3.ok.sub hq, by rw [rs.length]; exact hl, den_setAllQ _ _ at3 rs ?_⟩
          cases e0 : setAll is ds s2 with
          | exc _ _ => simp only [e0] at p3; exact p3.elim
          | stk => simp only [e0] at p3; exact p3.elim
          | ok fl0 s3 =>
            cases fl0 with
            | rt _ => simp only [e0] at p3; exact p3.elim
            | bk => simp only [e0] at p3; exact p3.elim
            | ct => simp only [e0] at p3; exact p3.elim
            | nx =>
              simp only [e0] at p3
              intro σ' a4
              refine ⟨C, W3, s3, a4, ?_⟩
              cases e : fa s3 with
              | exc _ _ => simp only [e] at p3; exact p3
              | stk => simp only [e] at p3; exact p3.elim
              | ok fl s4 =>
                simp only [e] at p3
                cases fl with
                | nx => exact fun W4 σ4 H4 l4 at4 => ⟨s4, W4, (l2.trans l3).trans l4, at4, p3.up l4⟩
                | ct => exact fun W4 σ4 H4 l4 at4 => ⟨s4, W4, (l2.trans l3).trans l4, at4, p3.up l4⟩
                | bk => exact fun W4 σ4 H4 l4 at4 => p3 W4 σ4 H4 l4 at4
                | rt r => exact fun W4 σ4 H4 l4 at4 => p3 W4 σ4 H4 l4 at4
      · simp only [hl, if_false] at p3
        exact p3.elim
    | _ => unfold forU at p3; exact p3.elim
  · have e : k = xs.length := by omega
    subst e
    rw [List.drop_length] at p2
    exact .inl ⟨wk.stop l2 at2 (Nat.le_refl _), p2 W2 σ2 H2 (Vw.Le.refl _) at2⟩
theorem sforU (is : List Nat) {X : Cx} {pt pos : Pos} {kt : Nat} {es : List Expr} {wi : TI} {cs : M (List PV)} {iter : Expr} {sa : List Stmt} (hc : X.calm = true) (hp : PassesOwn (model X.prog X.w) X.A X.env X.xe) (hi : PI X (.Tuple es kt pt) iter wi) (hw : SrcOk Y wi X.K cs) (hg : PGs X es (gNs is)) (hb : PSs X sa (denS X.K Y fa))
    (hn : (assignEach es X.env).length = is.length := by rfl) (hst : (assignEach es X.env).findIdx? (·.1) = none := by rfl) (hs : ∀ x, foldedSetIterable iter X.env x = pure x := by intro _; rfl) :
    PS X (.For (.Tuple es kt pt) iter sa [] pos) (denS X.K Y (loopU cs is fa)) := ps_imp (ps_for hp hc hi (pg_tup hc hg hn hst) hb hs) fun _ _ _ => den_forU hw
end
end Dn
/-! St4: own + and * (instances to the left). -/
namespace Dn
open PySem L2 ClX StX PySem.Spec PyProof.Rows
section
variable {prog : Program} {w : World} {M : Model} {A : Around} {E : Value → Shared → Prop} {s : Shared} {K : PySem.W.Frag} {x C D f : Addr} {ox : Obj} {od : Option Obj} {nm T : String} {b : Value}
def NoFill (K : PySem.W.Frag) (D : Addr) (nm : String) : Prop := ∃ cd, PySem.W.clsIn K D = some cd ∧ ∀ c ∈ cd.mro, PySem.W.findIn K c (PySem.dunder nm) = some none ∧ PySem.W.findIn K c (dunderR nm) = some none
theorem noFill_any {h : Heap} (X : K.In h) : ∀ {l : List Value}, (∀ c ∈ l, PySem.W.findIn K c (PySem.dunder nm) = some none ∧ PySem.W.findIn K c (dunderR nm) = some none) →
    PySem.W.Looks M h (l.anyM fun c => do
      if let .type _ := c then return ← (do
        let f ← typeLookup c (PySem.dunder nm)
        let r ← typeLookup c (dunderR nm)
        return (f.isSome && !isSeqSlot f) || (r.isSome && !isSeqSlot r))
      [PySem.dunder nm, dunderR nm].anyM fun name => do
        let some x ← typeLookup c name | return false
        if !ownNameWrapper x name then return true
        return !(← inheritsSeqSlot c name)) false
  | [], _ => .now
  | c :: r, hc => by
    intro A Q E s k q
    obtain ⟨h1, h2⟩ := hc c List.mem_cons_self
    have ih := noFill_any X (fun d hd => hc d (List.mem_cons_of_mem _ hd)) A Q E s k q
    have X' : K.In s.heap := X.keeps k
    have L1 : PySem.W.Looks M s.heap (typeLookup c (PySem.dunder nm)) none := PySem.W.looks_findIn X' h1
    have L2 : PySem.W.Looks M s.heap (typeLookup c (dunderR nm)) none := PySem.W.looks_findIn X' h2
    rw [List.anyM_cons]
    refine wpAny_bind ?_
    have tail : wpAny M A (if false = true then pure true else (r.anyM fun c => do
      if let .type _ := c then return ← (do
        let f ← typeLookup c (PySem.dunder nm)
        let r ← typeLookup c (dunderR nm)
        return (f.isSome && !isSeqSlot f) || (r.isSome && !isSeqSlot r))
      [PySem.dunder nm, dunderR nm].anyM fun name => do
        let some x ← typeLookup c name | return false
        if !ownNameWrapper x name then return true
        return !(← inheritsSeqSlot c name))) Q E s := by
      rw [if_neg (by decide)]
      exact ih
    have two : wpAny M A ([PySem.dunder nm, dunderR nm].anyM fun name => do
        let some x ← typeLookup c name | return false
        if !ownNameWrapper x name then return true
        return !(← inheritsSeqSlot c name)) (fun b s' => b = false ∧ s' = s) E s := by
      rw [List.anyM_cons]
      refine wpAny_bind (wpAny_bind (L1.here ?_))
      refine wpAny_pure ?_
      rw [if_neg (by decide), List.anyM_cons]
      refine wpAny_bind (wpAny_bind (L2.here ?_))
      refine wpAny_pure ?_
      rw [if_neg (by decide)]
      exact wpAny_pure ⟨rfl, rfl⟩
    cases c with
    | type n =>
      refine wpAny_bind (L1.here (wpAny_bind (L2.here ?_)))
      first | exact wpAny_pure tail | exact wpAny_bind (wpAny_pure (wpAny_pure tail)) | exact wpAny_pure (wpAny_pure tail)
    | _ =>
      refine wpAny_mono two (fun b s' hb => ?_) fun _ _ z => z
      obtain ⟨rfl, rfl⟩ := hb
      exact tail
theorem noFill_looks {h : Heap} (X : K.In h) (n : NoFill K D nm) : PySem.W.Looks M h (fillsNumberSlot (.ref D) nm) false := by
  obtain ⟨cd, hc, hm⟩ := n
  intro A Q E s k q
  unfold fillsNumberSlot
  exact wpAny_bind ((PySem.W.looks_clsIn X hc).andThen (f := fun cd => pure cd.mro) .now A _ E s k (noFill_any X hm A Q E s k q))
theorem opback {x : V} {v : Value} {Q : Value → Shared → Prop} {s' : Shared} (r : RelV x v) (h : Q v s') : PySem.W.CmpBack Q v s' := by
  cases x <;> first
    | (obtain ⟨t, rfl⟩ := r; exact h)
    | (cases r; exact h)
theorem try_bin {Q : Value → Shared → Prop} {name : Str} (X : K.In s.heap) (I : PySem.W.InstAt s.heap x ox C od) (hs : PySem.W.findIn K (.ref C) name = some (some (.ref f))) (hf : PySem.W.isFn K (.ref f) = true)
    (h : wpAny M A (call (.ref f) [.ref x, b]) (PySem.W.CmpBack Q) E s) : wpAny M A (tryMethod (.ref x) name b) (fun r s' => ∃ v, r = some v ∧ Q v s') E s := PySem.W.ksp_try X I hs hf h
theorem binop_same {op : Operator} {Q : Value → Shared → Prop} (X : K.In s.heap) (I : PySem.W.InstAt s.heap x ox C od) (hb : PySem.W.Looks (model prog w) s.heap (typeOf b) (.ref C)) (hc : PySem.W.selfFirst K C = true)
    (hs : PySem.W.findIn K (.ref C) (PySem.dunder op.info.2) = some (some (.ref f))) (hf : PySem.W.isFn K (.ref f) = true)
    (h : wpAny (model prog w) A (call (.ref f) [.ref x, b]) (PySem.W.CmpBack Q) E s) : wpAny (model prog w) A (binaryOp op (.ref x) b) Q E s := by
  obtain ⟨cd, rest, hcd, hm⟩ := PySem.W.ksp_first hc
  unfold binaryOp
  refine wpAny_holding (wpAny_bind ?_)
  unfold binaryOp1
  refine wpAny_bind (I.type.here (wpAny_bind (hb.here (wpAny_bind ((PySem.W.fills_K X hcd hm hs).here ?_)))))
  simp only [beq_self_eq_true, if_true]
  refine wpAny_bind (wpAny_pure ?_)
  simp only [Bool.and_false, Bool.false_eq_true, if_false, Bool.false_and]
  refine wpAny_bind (wpAny_pure ?_)
  simp only [Bool.false_eq_true, if_false]
  refine wpAny_bind (m := tryMethod (.ref x) _ b) (wpAny_mono (try_bin X I hs hf h) (fun r s' hr => ?_) fun _ _ e => e)
  obtain ⟨v, rfl, hq⟩ := hr
  exact wpAny_pure (wpAny_pure hq)
theorem binop_other {op : Operator} {Q : Value → Shared → Prop} (X : K.In s.heap) (I : PySem.W.InstAt s.heap x ox C od) (hb : PySem.W.Looks (model prog w) s.heap (typeOf b) (.ref D)) (hne : (Value.ref C == Value.ref D) = false) (hD : NoFill K D op.info.2) (hc : PySem.W.selfFirst K C = true)
    (hs : PySem.W.findIn K (.ref C) (PySem.dunder op.info.2) = some (some (.ref f))) (hf : PySem.W.isFn K (.ref f) = true)
    (h : wpAny (model prog w) A (call (.ref f) [.ref x, b]) (PySem.W.CmpBack Q) E s) : wpAny (model prog w) A (binaryOp op (.ref x) b) Q E s := by
  obtain ⟨cd, rest, hcd, hm⟩ := PySem.W.ksp_first hc
  unfold binaryOp
  refine wpAny_holding (wpAny_bind ?_)
  unfold binaryOp1
  refine wpAny_bind (I.type.here (wpAny_bind (hb.here (wpAny_bind ((PySem.W.fills_K X hcd hm hs).here ?_)))))
  simp only [hne, Bool.false_eq_true, if_false]
  refine wpAny_bind ((noFill_looks X hD).here ?_)
  simp only [Bool.and_false, Bool.false_eq_true, if_false, Bool.false_and]
  refine wpAny_bind (wpAny_pure ?_)
  simp only [Bool.false_eq_true, if_false]
  refine wpAny_bind (m := tryMethod (.ref x) _ b) (wpAny_mono (try_bin X I hs hf h) (fun r s' hr => ?_) fun _ _ e => e)
  obtain ⟨v, rfl, hq⟩ := hr
  exact wpAny_pure (wpAny_pure hq)
structure BltFill (K : PySem.W.Frag) (C : Addr) (nm : String) (T : String) : Prop where
  r : ∃ rc, PySem.W.findIn K (.ref C) (dunderR nm) = some rc ∧ (rc = none ∨ ∃ g : Addr, rc = some (.ref g))
  t : ∃ fo ro, PySem.W.findIn K (.type T) (PySem.dunder nm) = some fo ∧ PySem.W.findIn K (.type T) (dunderR nm) = some ro
  s : PySem.W.subIn K (.type T) (.ref C) = some false
theorem binop_T {op : Operator} {Q : Value → Shared → Prop} (X : K.In s.heap) (I : PySem.W.InstAt s.heap x ox C od) (hb : PySem.W.Looks (model prog w) s.heap (typeOf b) (.type T)) (hB : BltFill K C op.info.2 T) (hc : PySem.W.selfFirst K C = true)
    (hs : PySem.W.findIn K (.ref C) (PySem.dunder op.info.2) = some (some (.ref f))) (hf : PySem.W.isFn K (.ref f) = true)
    (h : wpAny (model prog w) A (call (.ref f) [.ref x, b]) (PySem.W.CmpBack Q) E s) : wpAny (model prog w) A (binaryOp op (.ref x) b) Q E s := by
  obtain ⟨cd, rest, hcd, hm⟩ := PySem.W.ksp_first hc
  obtain ⟨⟨rc, hr, hp⟩, ⟨fo, ro, h1, h2⟩, hsub⟩ := hB
  rcases hi : op.info with ⟨sym, nm'⟩
  rw [hi] at hs hr h1 h2
  dsimp only at hs hr h1 h2
  have one := try_bin X I hs hf h
  obtain ⟨hh, g, d, tt, os⟩ := s
  have L1 : PySem.W.Looks (model prog w) hh (typeOf (.ref x)) (.ref C) := I.type
  have L2 : PySem.W.Looks (model prog w) hh (typeOf b) (.type T) := hb
  have L3 : PySem.W.Looks (model prog w) hh (fillsNumberSlot (.ref C) nm') true := PySem.W.fills_K X hcd hm hs
  have L4 : PySem.W.Looks (model prog w) hh (fillsNumberSlot (.type T) nm') ((fo.isSome && !isSeqSlot fo) || (ro.isSome && !isSeqSlot ro)) := PySem.W.ksp_fillsT X h1 h2
  have L5 : PySem.W.Looks (model prog w) hh (isSubtype (.type T) (.ref C)) false := PySem.W.looks_subIn X hsub
  have L6 : PySem.W.Looks (model prog w) hh (numberSlotInPython (.ref C) nm') true := PySem.W.ksp_inPy X hs hr hp
  have L7 : PySem.W.Looks (model prog w) hh (numberSlotInPython (.type T) nm') false := PySem.W.Looks.of_pure rfl
  have L8 : PySem.W.Looks (model prog w) hh (typeLookup (.type T) (dunderR nm')) ro := PySem.W.looks_findIn X h2
  generalize ((fo.isSome && !isSeqSlot fo) || (ro.isSome && !isSeqSlot ro)) = right at L4
  have hne : (Value.ref C == Value.type T) = false := Bool.eq_false_iff.mpr fun q => by cases beq_iff_eq.mp q
  simp only [binaryOp, hi]
  refine wpAny_holding (wpAny_bind ?_)
  unfold binaryOp1
  refine wpAny_bind (L1.at (wpAny_bind (L2.at (wpAny_bind (L3.at ?_)))))
  simp only [hne, Bool.false_eq_true, if_false]
  cases right with
  | false =>
    ksp_lk
    refine wpAny_mono one (fun r s' hr' => ?_) fun _ _ e => e
    obtain ⟨v, rfl, hq⟩ := hr'
    ksp_lk
    exact hq
  | true =>
    ksp_lk
    refine wpAny_mono one (fun r s' hr' => ?_) fun _ _ e => e
    obtain ⟨v, rfl, hq⟩ := hr'
    ksp_lk
    exact hq
end
/-- a def runs on values; what it raises is let out -/
theorem run_ent {Y : WX} {X : Cx} {k n : Nat} {pins : List (Addr × Obj)} {s : Shared} {σ : L2.St} {H : Hp} {g : Addr} {mf : Fn} {vs : List V} {us : List Value} {Qv : VK} (I : Inv X pins σ H s) (hgd : X.A.guards = some []) (hr : Room k X.A) (tY : Takes X Y)
    (F : Ent X.prog X.w X.K X.mg X.base k g n n [] mf) (rv : Vals vs us) (hn : vs.length = n) (h : spM X.K n mf vs H Qv (WE Y σ)) :
    wpAny (model X.prog X.w) X.A (call (.ref g) us) (EP X pins σ Qv) X.xe s := by
  obtain ⟨fd, ps, hnp, G, hb⟩ := F.ex
  have bd := hb.to s us [] I.kIn (rv.length.symm.trans hn) rfl
  have rr := hb.rel (vs := vs) (us := us) (zs := []) (ws := []) rv .nil
  rw [List.append_nil] at rr
  have go := G.run X.A X.stack s H _ _ _ Qv (WE Y σ) hgd hr I.env0 bd rr h
  refine wpAny_call (codeAny_mono go fun res s' hq => ?_)
  match res, hq with
  | .error er, hq => exact passAt tY σ pins _ _ er s' I hq
  | .ok (.ret u), hq => exact I.after hq
  | .ok .next, hq => exact False.elim hq
  | .ok .brk, hq => exact False.elim hq
  | .ok .cont, hq => exact False.elim hq
/-! ### operators that may raise -/
abbrev R2S := L2.St → R2
def tOpS (r : R2S) (ta tb : TE) : TE := fun σ H Q => ta σ H fun x H1 => tb σ H1 fun y H2 => r σ x y H2 Q
def OpRS (X : Cx) (f : Value → Value → Sem Value) (r : R2S) : Prop :=
  ∀ (pins : List (Addr × Obj)) (s : Shared) (σ : L2.St) (H : Hp) (x y : V) (v u : Value) (Q : VK), Inv X pins σ H s → RelV x v → RelV y u → r σ x y H Q → wpAny (model X.prog X.w) X.A (f v u) (EP X pins σ Q) X.xe s
theorem pe_opS {X : Cx} {a b : Expr} {ta tb : TE} {pos : Pos} {op : Operator} {r : R2S} (ho : OpRS X (binaryOp op) r) (ha : PE X a ta) (hb : PE X b tb) : PE X (.BinOp a op b pos) (tOpS r ta tb) := by
  refine ⟨fun pins s σ H Q I h => ?_⟩
  exact wpAny_BinOp (binT (R := fun x y H2 => r σ x y H2 Q) ha hb I h fun v u s2 x y H2 I2 rx ry q => ho pins s2 σ H2 x y v u Q I2 rx ry q)
section
variable {Y : WX} {K : PySem.W.Frag} {σ : L2.St} {H : Hp} {Q : VK} {ca cb : M PV}
def BinS (Y : WX) (r : R2S) (K : PySem.W.Frag) (op : PV → PV → M PV) : Prop := ∀ (C : Ctx) (W : Vw) (s : S) (σ : L2.St) (H : Hp) (v w : V) (a b : PV) (Q : VK), At K (C.wi Y) W s σ H → Rep K W v a → Rep K W w b → Pst K (C.wi Y) W σ (op a b s) (WantV K Q) → r σ v w H Q
theorem den_binS {r : R2S} {op : PV → PV → M PV} (hb : BinS Y r K op) (h : den K Y (bin ca cb op) σ H Q) : tOpS r (den K Y ca) (den K Y cb) σ H Q := by
  obtain ⟨C, W, s, at', p⟩ := h
  refine ⟨C, W, s, at', (Pst.bnd p).imp fun a s1 W1 H1 l1 at1 p1 v rv => ⟨C, W1, s1, at1, (Pst.bnd p1).imp fun b s2 W2 H2 l2 at2 p2 w rw' => ?_⟩⟩
  exact hb _ W2 s2 σ H2 v w a b Q at2 (rv.mono l2) rw' p2
structure BopC (K : PySem.W.Frag) (C g : Addr) (nm : String) : Prop where
  sf : PySem.W.selfFirst K C = true
  he : PySem.W.findIn K (.ref C) (PySem.dunder nm) = some (some (.ref g))
  fn : PySem.W.isFn K (.ref g) = true
structure BopTab (P : Program) (w : World) (K : PySem.W.Frag) (mg : Str → Option Value) (base : Heap) (k : Nat) (nm : String) (tab : List (Str × Fn)) (oth : List Str) (bl : List String) : Prop where
  own : ∀ c mf, tab.lookup c = some mf → ∃ C g, ClsAt K c C ∧ C8.InsC K C ∧ BopC K C g nm ∧ Ent P w K mg base k g 2 2 [] mf
  oth : ∀ c mf, tab.lookup c = some mf → ∀ c2 ∈ oth, ∃ C D, ClsAt K c C ∧ ClsAt K c2 D ∧ C8.InsC K D ∧ (Value.ref C == Value.ref D) = false ∧ NoFill K D nm
  blt : ∀ c mf, tab.lookup c = some mf → ∃ C, ClsAt K c C ∧ ∀ t ∈ bl, BltFill K C nm t
def bopO (tab : List (Str × Fn)) (oth : List Str) (bl : List String) (n : Nat) (old : PV → PV → M PV) (a b : PV) : M PV := fun s => match insOf s a with
  | none => old a b s
  | some (c, _, _) => match tab.lookup c with
    | none => .stk
    | some f => match insOf s b with
      | some (c2, _, _) => if c2 = c ∨ c2 ∈ oth then runM f n [a, b] s else .stk
      | none => (match tyS s b with
        | some T => if T ∈ bl then runM f n [a, b] s else .stk
        | none => .stk)
def rBopO (P : Program) (w : World) (K : PySem.W.Frag) (mg : Str → Option Value) (base : Heap) (k : Nat) (nm : String) (Y : WX) : R2S := fun σ x y H Q => ∃ (a C dx : Addr) (fs : List (Str × V)) (t : Value) (g : Addr) (mf : Fn), x = .ref a ∧ H a = some (.ins C dx fs) ∧ TyX K H y t ∧ BopC K C g nm ∧ Ent P w K mg base k g 2 2 [] mf ∧
  (t = .ref C ∨ (∃ D, t = .ref D ∧ (Value.ref C == Value.ref D) = false ∧ NoFill K D nm) ∨ ∃ T, t = .type T ∧ BltFill K C nm T) ∧ spM K 2 mf [x, y] H Q (WE Y σ)
def rOrS (r : R2) (q : R2S) : R2S := fun σ x y H Q => r x y H Q ∨ q σ x y H Q
theorem op_orS {X : Cx} {f : Value → Value → Sem Value} {r : R2} {q : R2S} (h : OpR X f r) (k : OpRS X f q) : OpRS X f (rOrS r q) := by
  intro pins s σ H x y v u Q I rx ry h'
  rcases h' with h' | h'
  · exact h pins s σ H x y v u Q I rx ry h'
  · exact k pins s σ H x y v u Q I rx ry h'
theorem op_bopO {X : Cx} {k : Nat} {op : Operator} (hgd : X.A.guards = some []) (hr : Room k X.A) (tY : Takes X Y) : OpRS X (binaryOp op) (rBopO X.prog X.w X.K X.mg X.base k op.info.2 Y) := by
  intro pins s σ H x y v u Q I rx ry hq
  obtain ⟨a, C, dx, fs, t, g, mf, rfl, ha, ty, c, F, ht, hsp⟩ := hq
  obtain rfl : v = Value.ref a := rx
  obtain ⟨ox, od, J, _⟩ := StX.insC_at (C := C) I (.inr ⟨dx, fs, ha⟩)
  obtain ⟨P, Z, pz, _⟩ := kit_of I ry ty
  have hb := Z.ty (model X.prog X.w) _ I.kIn pz
  have go : wpAny (model X.prog X.w) X.A (call (.ref g) [.ref a, u]) (PySem.W.CmpBack (EP X pins σ Q)) X.xe s := thn (run_ent I hgd hr tY F (.cons (show L2.RelV (.ref a) (.ref a) from rfl) (.cons ry .nil)) rfl hsp) fun z s' hz => by
    obtain ⟨zv, H', I', rz, q⟩ := hz
    exact opback rz ⟨zv, H', I', rz, q⟩
  rcases ht with rfl | ⟨D, rfl, hne, hD⟩ | ⟨T, rfl, hT⟩
  · exact binop_same I.kIn J hb c.sf c.he c.fn go
  · exact binop_other I.kIn J hb hne hD c.sf c.he c.fn go
  · exact binop_T I.kIn J hb hT c.sf c.he c.fn go
theorem bin_bopO {P : Program} {w : World} {mg : Str → Option Value} {base : Heap} {k n : Nat} {nm : String} {tab : List (Str × Fn)} {oth : List Str} {bl : List String} {r : R2} {old : PV → PV → M PV} (T : BopTab P w K mg base k nm tab oth bl) (hold : Bin r K old) : BinS Y (rOrS r (rBopO P w K mg base k nm Y)) K (bopO tab oth bl n old) := by
  intro C W s σ H v u a b Q at' ra rb p
  unfold bopO at p
  cases e : insOf s a with
  | none =>
    simp only [e] at p
    exact .inl (hold _ W s σ H v u a b Q at' (.rep ra) (.rep rb) p)
  | some t =>
    obtain ⟨c, ks, vs⟩ := t
    simp only [e] at p
    cases e1 : tab.lookup c with
    | none => simp only [e1] at p; exact p.elim
    | some mf =>
      simp only [e1] at p
      obtain ⟨ad, Cc, dx, us, rfl, h1, h2, _, _⟩ := insOf_rep at' ra e
      obtain ⟨C2, g, k1, k2, k3, F⟩ := T.own c mf e1
      cases cls_uniq h1 k1
      have go : ∀ {r : Res S PV}, r = runM mf n [a, b] s → Pst K (C.wi Y) W σ r (WantV K Q) → spM K 2 mf [.ref ad, u] H Q (WE Y σ) := fun {r} e p => sp_run F.len at' (.cons ra (.cons rb .nil)) (e ▸ p)
      cases e2 : insOf s b with
      | some t2 =>
        obtain ⟨c2, ks2, vs2⟩ := t2
        simp only [e2] at p
        obtain ⟨ad2, Cc2, dx2, us2, rfl, h3, h4, _, _⟩ := insOf_rep at' rb e2
        by_cases hc : c2 = c ∨ c2 ∈ oth
        · rw [if_pos hc] at p
          rcases hc with rfl | hc
          · cases cls_uniq h3 k1
            exact .inr ⟨ad, _, dx, _, .ref _, g, mf, rfl, h2, ins_ty (c := c2) k2 h4, k3, F, .inl rfl, go rfl p⟩
          · obtain ⟨C3, D, k4, k5, k6, k7, k8⟩ := T.oth c mf e1 c2 hc
            cases cls_uniq k1 k4
            cases cls_uniq h3 k5
            exact .inr ⟨ad, _, dx, _, .ref _, g, mf, rfl, h2, ins_ty (c := c2) k6 h4, k3, F, .inr (.inl ⟨_, rfl, k7, k8⟩), go rfl p⟩
        · rw [if_neg hc] at p
          exact p.elim
      | none =>
        simp only [e2] at p
        cases e3 : tyS s b with
        | none => simp only [e3] at p; exact p.elim
        | some ty =>
          simp only [e3] at p
          by_cases hT : ty ∈ bl
          · rw [if_pos hT] at p
            obtain ⟨C3, k4, k5⟩ := T.blt c mf e1
            cases cls_uniq k1 k4
            exact .inr ⟨ad, _, dx, _, .type ty, g, mf, rfl, h2, tyS_rep at' rb e3, k3, F, .inr (.inr ⟨_, rfl, k5 ty hT⟩), go rfl p⟩
          · rw [if_neg hT] at p
            exact p.elim
end
section
variable {Y : WX} {X : Cx} {a b : Expr} {ca cb : M PV} {pos : Pos} {j k : Nat} {tab : List (Str × Fn)} {oth : List Str} {bl : List String}
theorem xaddO (n : Nat) (T : BopTab X.prog X.w X.K X.mg X.base j "add" tab oth bl) (hgd : X.A.guards = some []) (hr : Room k X.A) (tY : Takes X Y) (hjk : j ≤ k) (ha : PE X a (den X.K Y ca)) (hb : PE X b (den X.K Y cb)) : PE X (.BinOp a .Add b pos) (den X.K Y (bin ca cb (bopO tab oth bl n opAdd))) :=
  pe_imp (pe_opS (op_orS op_addU (op_bopO hgd (hr.mono hjk) tY)) ha hb) fun _ _ _ => den_binS (bin_bopO T bin_add)
end
end Dn
/-! St5: defs and classes with a star parameter, in rows; own operators in rows. -/
namespace Dn
open PySem L2 ClX StX NdefX PySem.Spec PyProof.Rows
def StarB (fd : FuncData) (ps : List Str) (pv : Str) : Prop := ∀ us rest : List Value, us.length = ps.length → bindArgs fd ⟨us ++ rest, []⟩ = (newTuple rest >>= fun t => pure (ps.zip us ++ [(pv, t)]))
abbrev PrV (P : Program) (w : World) (K : PySem.W.Frag) (mg : Str → Option Value) (base : Heap) (k : Nat) (x qual : Str) (st : Stmt) (ps : List Str) (pv : Str) (m : Fn) : Prop := ∀ f fd, Fun K x qual st f fd → StarB fd ps pv → FnGS P w K mg base (L2.CX P w) k f ps.length (spM K (ps ++ [pv]).length m)
theorem prV_mk {P : Program} {w : World} {K : PySem.W.Frag} {mg : Str → Option Value} {base : Heap} {k : Nat} {x qual pv : Str} {st : Stmt} {N ps : List Str} {body : Nat → M Fl} (S : FnScope N (ps ++ [pv]) (defScope st)) (hN : (ps ++ [pv]).length ≤ N.length)
    (hbody : ∀ (f : Addr) (cdv : Value) (A : Around) (outer : List PySem.Env) (s : Shared) (H : Hp) (E : XK) (n : Nat), (A.deeper (envOfC qual (defScope st) s.heap.objs.size f cdv)).guards = some [] → Room k (A.deeper (envOfC qual (defScope st) s.heap.objs.size f cdv)) →
      Takes (bodyQ P w K mg base N qual st f cdv A outer s H E) (yE E) → PassesOwn (model P w) (bodyQ P w K mg base N qual st f cdv A outer s H E).A (bodyQ P w K mg base N qual st f cdv A outer s H E).env (bodyQ P w K mg base N qual st f cdv A outer s H E).xe →
      PSs (bodyQ P w K mg base N qual st f cdv A outer s H E) (defBody st) (denS K (yE E) (body n))) :
    PrV P w K mg base (k + 1) x qual st ps pv (fnM (ps ++ [pv]).length N.length body) := by
  intro f fd F hb
  obtain ⟨oc, od, kV, doc, pm, an, cdv, ct, osl, rfl, lk, hcd⟩ := F.ex
  refine fn_starG lk hcd S cxUp hb fun A outer s H vs Q E hgd hr hsp => ?_
  obtain ⟨n, h⟩ := start_den hN hsp
  exact ⟨_, hbody f cdv A outer s H E n hgd hr (takes_of rfl rfl rfl rfl) (passes_of rfl), h⟩
structure MkV (P : Program) (w : World) (K : PySem.W.Frag) (mg : Str → Option Value) (base : Heap) (k : Nat) (c : Str) (np i : Nat) (m : Fn) : Prop where
  ex : ∃ C f, ClsAt K c C ∧ mg c = some (.ref C) ∧ Mk K C f ∧ FnGS P w K mg base (L2.CX P w) k f (i + 1) (spM K np m)
  len : ∀ n ds st, m n ds st ≠ .stk → ds.length = np
def MkVP (K : PySem.W.Frag) (mg : Str → Option Value) (c qual : Str) (st : Stmt) (ps : List Str) (pv : Str) : Prop := ∃ C f fd, ClsAt K c C ∧ mg c = some (.ref C) ∧ Mk K C f ∧ Fun K "__init__" qual st f fd ∧ StarB fd ps pv
section
variable {P : Program} {w : World} {K : PySem.W.Frag} {mg : Str → Option Value} {base : Heap} {k j nn : Nat} {c qual m pv : Str} {st : Stmt} {ps : List Str} {body : Nat → M Fl} {np i : Nat} {tab : List (Str × Fn)}
theorem mkV_row (G : PrV P w K mg base k "__init__" qual st ps pv (fnM np nn body)) (Z : MkVP K mg c qual st ps pv) (e : ps.length = i + 1) (e2 : (ps ++ [pv]).length = np) : MkV P w K mg base k c np i (fnM np nn body) := by
  obtain ⟨C, f, fd, h1, h2, h3, F, hb⟩ := Z
  refine ⟨⟨C, f, h1, h2, h3, ?_⟩, fun n ds st h => fnM_len h⟩
  have g := G f fd F hb
  rw [e, e2] at g
  exact g
/-! ### own operators -/
def BopP (K : PySem.W.Frag) (c : Str) (nm : String) (x qual : Str) (st : Stmt) (ps : List Str) : Prop := ∃ C g fd, ClsAt K c C ∧ C8.InsC K C ∧ BopC K C g nm ∧ Fun K x qual st g fd ∧ KB K fd ps 2 []
def OthP (K : PySem.W.Frag) (c c2 : Str) (nm : String) : Prop := ∃ C D, ClsAt K c C ∧ ClsAt K c2 D ∧ C8.InsC K D ∧ (Value.ref C == Value.ref D) = false ∧ NoFill K D nm
def BopB (K : PySem.W.Frag) (c : Str) (nm : String) (bl : List String) : Prop := ∃ C, ClsAt K c C ∧ ∀ t ∈ bl, BltFill K C nm t
structure BopO (P : Program) (w : World) (K : PySem.W.Frag) (mg : Str → Option Value) (base : Heap) (k : Nat) (nm : String) (tab : List (Str × Fn)) : Prop where
  ok : ∀ c mf, tab.lookup c = some mf → ∃ C g, ClsAt K c C ∧ C8.InsC K C ∧ BopC K C g nm ∧ Ent P w K mg base k g 2 2 [] mf
theorem bo0 {nm : String} : BopO P w K mg base k nm [] := ⟨fun c mf h => nomatch h⟩
theorem boC {nm : String} {x : Str} {r : List (Str × Fn)} (G : Pr P w K mg base j x qual st ps (fnM np nn body)) (Z : BopP K c nm x qual st ps) (hjk : j ≤ k) (e : ps.length = np) (e2 : np = 2) (T : BopO P w K mg base k nm r) : BopO P w K mg base k nm ((c, fnM np nn body) :: r) := ⟨fun d mf h => by
  rcases look_cons h with ⟨rfl, rfl⟩ | h
  · obtain ⟨C, g, fd, h1, h2, h3, F, hb⟩ := Z
    subst e2
    exact ⟨C, g, h1, h2, h3, FnG.up (ent_row G F hb e) hjk⟩
  · exact T.ok d mf h⟩
structure OthOk (K : PySem.W.Frag) (c : Str) (nm : String) (oth : List Str) : Prop where
  ok : ∀ c2 ∈ oth, OthP K c c2 nm
theorem oth0 {nm : String} : OthOk K c nm [] := ⟨fun c mf => nomatch mf⟩
theorem othC {nm : String} {c2 : Str} {r : List Str} (h : OthP K c c2 nm) (T : OthOk K c nm r) : OthOk K c nm (c2 :: r) := ⟨fun d hd => by
  rcases List.mem_cons.mp hd with rfl | hd
  · exact h
  · exact T.ok d hd⟩
theorem bopT {nm : String} {c : Str} {mf : Fn} {oth : List Str} {bl : List String} (T : BopO P w K mg base k nm [(c, mf)]) (O : OthOk K c nm oth) (B : BopB K c nm bl) : BopTab P w K mg base k nm [(c, mf)] oth bl := by
  refine ⟨T.ok, fun d mf' h c2 hc => ?_, fun d mf' h => ?_⟩
  · rcases look_cons h with ⟨rfl, rfl⟩ | h
    · exact O.ok c2 hc
    · exact nomatch h
  · rcases look_cons h with ⟨rfl, rfl⟩ | h
    · exact B
    · exact nomatch h
theorem noFill2 {D : Addr} {nm : String} {cd : ClassData} {l : List Value} (h : PySem.W.clsIn K D = some cd) (e : cd.mro = l) (hl : ∀ c ∈ l, PySem.W.findIn K c (PySem.dunder nm) = some none ∧ PySem.W.findIn K c (dunderR nm) = some none) : NoFill K D nm := ⟨cd, h, e ▸ hl⟩
theorem nf0 {nm : String} : ∀ c ∈ ([] : List Value), PySem.W.findIn K c (PySem.dunder nm) = some none ∧ PySem.W.findIn K c (dunderR nm) = some none := fun _ h => nomatch h
theorem nfC {nm : String} {v : Value} {r : List Value} (h1 : PySem.W.findIn K v (PySem.dunder nm) = some none) (h2 : PySem.W.findIn K v (dunderR nm) = some none) (h : ∀ c ∈ r, PySem.W.findIn K c (PySem.dunder nm) = some none ∧ PySem.W.findIn K c (dunderR nm) = some none) : ∀ c ∈ v :: r, PySem.W.findIn K c (PySem.dunder nm) = some none ∧ PySem.W.findIn K c (dunderR nm) = some none := fun c hc => by
  rcases List.mem_cons.mp hc with rfl | hc
  · exact ⟨h1, h2⟩
  · exact h c hc
theorem bf0 {C : Addr} {nm : String} : ∀ t ∈ ([] : List String), BltFill K C nm t := fun _ h => nomatch h
end
section
variable {Y : WX} {X : Cx} {k j : Nat} {c : Str} {p pos : Pos} {e : Expr} {es : List Expr} {np i : Nat} {mf : Fn} {ca : M (List PV)}
theorem xmakeV (n : Nat) (D : MkV X.prog X.w X.K X.mg X.base j c np i mf) (hgd : X.A.guards = some []) (hr : Room k X.A) (tY : Takes X Y) (hjk : j + 1 ≤ k) (ha : PA X (e :: es) (denA X.K Y ca)) (hg : Gl X c := by rfl)
    (hdb : (c == ("__debug__" : Str)) = false := by decide) (he : starEach (e :: es) X.env = (false, eval e X.env) :: starEach es X.env := by rfl) : PE X (.Call (.Name c p) (e :: es) [] pos) (den X.K Y (makeM c mf n (starA i ca))) := by
  obtain ⟨C, f, hc, hm, M, F⟩ := D.ex
  exact pe_imp (pe_makeSG M F hgd (hr.mono hjk) tY hg hm ha hdb he) fun _ _ _ => den_makeS hc D.len
end
end Dn
namespace Dn
open PySem L2 ClX StX NdefX PySem.Spec PyProof.Rows
theorem starB2 {fd : FuncData} {p1 p2 pv : Str} (h0 : ∀ a b, bindArgs fd ⟨[a, b], []⟩ = (newTuple [] >>= fun t => pure [(p1, a), (p2, b), (pv, t)])) (h1 : ∀ a b r rs, bindArgs fd ⟨a :: b :: r :: rs, []⟩ = (newTuple (r :: rs) >>= fun t => pure [(p1, a), (p2, b), (pv, t)])) : StarB fd [p1, p2] pv
  | [a, b], [], _ => h0 a b
  | [a, b], r :: rs, _ => h1 a b r rs
end Dn
/-! St6: a list of anything compared with []. -/
namespace Dn
open PySem L2 ClX StX NdefX PySem.Spec PyProof.Rows
end Dn
/-! St7: tuples turned round, range of two, x += e, min and max of a list. -/
namespace Dn
open PySem L2 ClX StX NdefX PySem.Spec PyProof.Rows
section
variable {prog : Program} {w : World} {A : Around} {E : Value → Shared → Prop} {s : Shared}
theorem rev_pick {α : Type} (xs : List α) : (List.range xs.length).filterMap (fun (m : Nat) => xs[((xs.length : Int) - 1 + (m : Int) * (-1)).toNat]?) = xs.reverse := by
  have e : ∀ k, k ≤ xs.length → (List.range k).filterMap (fun (m : Nat) => xs[((xs.length : Int) - 1 + (m : Int) * (-1)).toNat]?) = xs.reverse.take k := by
    intro k
    induction k with
    | zero => intro _; simp
    | succ k ih =>
      intro hk
      rw [List.range_succ, List.filterMap_append, ih (by omega), List.take_add_one]
      congr 1
      have e1 : ((xs.length : Int) - 1 + (k : Int) * (-1)).toNat = xs.length - 1 - k := by omega
      have e2 : xs.reverse[k]? = xs[xs.length - 1 - k]? := by
        rw [List.getElem?_reverse (by omega)]
      rw [e2]
      simp only [List.filterMap_cons, List.filterMap_nil, e1]
      cases xs[xs.length - 1 - k]? <;> rfl
  rw [e xs.length (Nat.le_refl _), List.take_of_length_le (by simp)]
theorem sliceApplied_back {sl : Addr} {vs : Value} {n : Nat} {Q : Int × Int × Nat → Shared → Prop} (hs : s.heap.IsSliceOf sl .none .none vs) (ps : IsPart vs (some (-1)))
    (h : Q ((n : Int) - 1, -1, n) s) : wpAny (model prog w) A (Builtin.Slice.sliceApplied (.ref sl) (pure (n : Int))) Q E s := by
  obtain ⟨os, hos, hcs, hds⟩ := id hs
  unfold Builtin.Slice.sliceApplied Builtin.Slice.sliceFields
  refine wpAny_bind (wpAny_bind (wpAny_field hos hds (x := .none) rfl (wpAny_bind (wpAny_field hos hds (x := .none) rfl (wpAny_bind (wpAny_field hos hds (x := vs) rfl (wpAny_pure ?_)))))))
  refine wpAny_bind (HT.slicePart_ ps ?_)
  show wpAny _ _ (if ((-1 : Int) == 0) = true then _ else _) _ _ s
  rw [if_neg (by decide)]
  refine wpAny_bind (PyProof.Rows.slicePart_none (wpAny_bind (PyProof.Rows.slicePart_none (wpAny_bind (wpAny_pure ?_)))))
  have e : Builtin.Slice.sliceAdjust none none (-1) (n : Int) = ((n : Int) - 1, -1) := rfl
  show wpAny _ _ (match Builtin.Slice.sliceAdjust none none (-1) (n : Int) with | (lo, hi) => pure (lo, (-1 : Int), Builtin.Slice.slicePlaces lo hi (-1))) _ _ s
  rw [e]
  show wpAny _ _ (pure ((n : Int) - 1, (-1 : Int), Builtin.Slice.slicePlaces ((n : Int) - 1) (-1) (-1))) _ _ s
  have e2 : Builtin.Slice.slicePlaces ((n : Int) - 1) (-1) (-1) = n := by
    unfold Builtin.Slice.slicePlaces
    rw [if_neg (by decide)]
    by_cases hn : (n : Int) - 1 > -1
    · rw [if_pos hn]
      rw [show (-(-1 : Int)) = 1 from rfl, Int.ediv_one]
      omega
    · rw [if_neg hn]
      omega
  rw [e2]
  exact wpAny_pure h
theorem getItem_tuple_back {t sl : Addr} {items : List Value} {vs : Value} {Q : Value → Shared → Prop} (ht : IsTup s.heap t items.toArray) (hs : s.heap.IsSliceOf sl .none .none vs) (ps : IsPart vs (some (-1)))
    (h : Q (.ref s.heap.objs.size) { s with heap := s.heap.push { cls := .type "tuple", data := .seq items.reverse.toArray } })
    (hsz : items.length ≤ sizeLine) : wpAny (model prog w) A (getItem (.ref t) (.ref sl)) Q E s := by
  have htake : sizeOk (.seq items.reverse.toArray) := by
    show items.reverse.toArray.size ≤ sizeLine
    rw [List.size_toArray, List.length_reverse]
    exact hsz
  obtain ⟨os, hos, hcs, hds⟩ := id hs
  have hTs : s.TypeIs (.ref sl) "slice" := ⟨os, hos, hcs⟩
  unfold getItem
  try with_reducible refine wpAny_holding ?_
  first | refine wpAny_bind (wpAny_pure ?_) | skip
  refine wpAny_bind (wpAny_sequenceKey ht.typeIs (by decide) ?_)
  refine wpAny_bind (wpAny_callSpecial?_slot (name := Str.ofString "__getitem__") ht.typeIs PyProof.Rows.slot_tuple_getitem
    (wpAny_call_entry PyProof.Rows.slot_tuple_getitem ht.typeIs entry_tuple_getitem ?_ (args_tuple_getitem _ _)))
  show wpAny _ _ (Builtin.Tuple.tupleItemsOf (.ref t) >>= _) _ _ s
  refine wpAny_bind (tupleItemsOf_ ht ?_)
  refine wpAny_bind (wpAny_typeOf hTs ?_)
  rw [if_pos (by decide)]
  refine wpAny_bind (sliceApplied_back (n := items.toArray.size) hs ps ?_)
  have hno : ¬ ((((items.toArray.size : Int) - 1) == 0 && (-1 : Int) == 1 && items.toArray.size == items.toArray.size) = true) := by
    intro q
    rw [Bool.and_eq_true, Bool.and_eq_true] at q
    exact absurd q.1.2 (by decide)
  show wpAny _ _ (if ((((items.toArray.size : Int) - 1) == 0 && (-1 : Int) == 1 && items.toArray.size == items.toArray.size)) = true then _ else _) _ _ s
  rw [if_neg hno]
  have e : ((List.range items.toArray.size).filterMap fun (k : Nat) => items.toArray[((items.toArray.size : Int) - 1 + (k : Int) * (-1)).toNat]?) = items.reverse := by
    rw [List.size_toArray, ← rev_pick items]
    simp only [List.getElem?_toArray]
  rw [e]
  first
    | exact wpAny_bind (m := Builtin.Tuple.tupleExact _) (wpAny_newObj_type (wpAny_pure ⟨_, rfl, wpAny_pure h⟩) htake)
    | exact wpAny_bind (m := Builtin.Tuple.tupleExact _) (wpAny_newObj_type (wpAny_bind (wpAny_pure (wpAny_pure ⟨_, rfl, wpAny_pure h⟩))) htake)
    | exact wpAny_bind (wpAny_bind (m := Builtin.Tuple.tupleExact _) (wpAny_newObj_type (wpAny_pure (wpAny_pure ⟨_, rfl, wpAny_pure h⟩)) htake))
    | exact wpAny_bind (wpAny_bind (m := Builtin.Tuple.tupleExact _) (wpAny_newObj_type (wpAny_pure ⟨_, rfl, wpAny_pure h⟩) htake))
end
section
variable {X : Cx} {Y : WX}
def tRevT (K : PySem.W.Frag) (te : TE) : TE := fun σ H Q => te σ H fun x H1 => ∃ a xs, x = .ref a ∧ SqT K H1 a xs ∧ ∀ p, H1 p = none → Q (.ref p) (upd H1 p (.tup xs.reverse))
theorem pe_revT {e : Expr} {te : TE} {k : Nat} {p1 p2 p3 pos : Pos} (he : PE X e te) : PE X (.Subscript e (.Slice none none (some (.UnaryOp .USub (.Constant (.int 1) k p1) p2)) p3) pos) (tRevT X.K te) := by
  refine ⟨fun pins s σ H Q I h => ?_⟩
  refine Subscript_ (thn (he.run pins s σ H _ I h) fun v s1 ⟨x, H1, I1, r1, q1⟩ => ?_)
  obtain ⟨a, xs, ex, hx, q⟩ := q1
  subst ex
  cases r1
  have hst : PO X (some (.UnaryOp .USub (.Constant (.int 1) k p1) p2)) (tPart (tUn (rU fun i => .int (-i)) (tC (.int 1)))) := po_some (pe_un un_neg pe_int)
  refine wpAny_Slice (thn (po_none.run pins s1 σ H1 (fun o H2 => o = none ∧ H2 = H1) I1 ⟨rfl, rfl⟩) fun vl s2 ⟨l, H2, I2, pl, el, e2⟩ => ?_)
  subst el e2
  refine thn (po_none.run pins s2 σ H2 (fun o H3 => o = none ∧ H3 = H2) I2 ⟨rfl, rfl⟩) fun vu s3 ⟨u, H3, I3, pu, eu, e3⟩ => ?_
  subst eu e3
  refine thn (hst.run pins s3 σ H3 (fun o H4 => o = some (-1) ∧ H4 = H3) I3 ⟨1, rfl, -1, rfl, rfl, rfl⟩) fun vs s4 ⟨o, H4, I4, ps, eo, e4⟩ => ?_
  subst eo e4
  cases pl
  cases pu
  have I5 : Inv X pins σ H4 { s4 with heap := s4.heap.push { cls := .type "slice", data := .fields #[.none, .none, vs] } } := I4.kept (t' := s4.toks) fun b ob q => Heap.get?_push_of_some _ q
  obtain ⟨its, r, ht, hz⟩ := I5.tuple hx
  show wpAny (model X.prog X.w) X.A (subscriptTail e (.Slice none none (some (.UnaryOp .USub (.Constant (.int 1) k p1) p2)) p3) (.ref a) (.ref s4.heap.objs.size)) (EP X pins σ Q) X.xe { s4 with heap := s4.heap.push { cls := .type "slice", data := .fields #[.none, .none, vs] } }
  refine tail_any (ops := [.ref a, .ref s4.heap.objs.size]) ht.typeIs (PyProof.Rows.slot_tuple_getitem.lookup) ?_ (by with_unfolding_all rfl)
  refine getItem_tuple_back (items := its) ht (Heap.IsSliceOf.new _ .none .none vs) ps ?_ (by rw [← r.length]; exact hz)
  refine ⟨.ref _, _, I5.laid (t' := s4.toks) (o := .tup xs.reverse) (fun b ob q => Heap.get?_push_of_some _ q) (Nat.le_refl _) ?_, rfl, q _ (I5.hok.fresh (Nat.le_refl _))⟩
  exact ⟨by rw [List.length_reverse]; exact hz, _, r.reverse, ⟨_, Heap.get?_push_size _ rfl, rfl, _, rfl⟩⟩
end
section
variable {Y : WX} {K : PySem.W.Frag} {C : Ctx} {W W' : Vw} {σ : L2.St} {H : Hp} {s : S} {D : Ends} {ca cb : M PV} {Q : VK} {i : Nat}
def revU (c : M PV) : M PV := bnd c fun d => match d with
  | .lst xs => ret (.lst xs.reverse)
  | .tup xs => ret (.tup xs.reverse)
  | _ => stuck
theorem den_revU (h : den K Y (revU ca) σ H Q) : tRevL K (den K Y ca) σ H Q ∨ tRevT K (den K Y ca) σ H Q := by
  obtain ⟨C, W, s, at', p⟩ := h
  have p := Pst.bnd p
  cases e : ca s with
  | exc _ _ => exact .inl ⟨C, W, s, at', by rw [e] at p ⊢; exact p⟩
  | stk => rw [e] at p; exact p.elim
  | ok d s1 =>
    cases d with
    | lst xs =>
      refine .inl ⟨C, W, s, at', ?_⟩
      rw [e] at p ⊢
      intro W1 H1 l1 at1 v rv
      have p1 := p W1 H1 l1 at1
      cases rv with
      | lst hx rx =>
        refine ⟨_, _, rfl, SqL.of (at1.ok.sub _ _ hx), fun p hp => ?_⟩
        obtain ⟨W4, l4, at4, r4⟩ := at1.layL hp rx.rev
        exact p1 W4 _ l4 at4 _ r4
    | tup xs =>
      refine .inr ⟨C, W, s, at', ?_⟩
      rw [e] at p ⊢
      intro W1 H1 l1 at1 v rv
      have p1 := p W1 H1 l1 at1
      cases rv with
      | tup hx rx =>
        refine ⟨_, _, rfl, same_t at1.ok.sub hx, fun p hp => ?_⟩
        obtain ⟨W4, l4, at4, r4⟩ := at1.layT hp rx.rev
        exact p1 W4 _ l4 at4 _ r4
    | _ =>
      refine .inl ⟨C, W, s, at', ?_⟩
      rw [e] at p ⊢
      intro W1 H1 l1 at1
      exact (p W1 H1 l1 at1).elim
theorem xrevU {X : Cx} {e : Expr} {k : Nat} {p1 p2 p3 pos : Pos} {ce : M PV} (he : PE X e (den X.K Y ce)) : PE X (.Subscript e (.Slice none none (some (.UnaryOp .USub (.Constant (.int 1) k p1) p2)) p3) pos) (den X.K Y (revU ce)) := ⟨fun pins s σ H Q I h => by
  rcases den_revU h with h | h
  · exact (pe_revL he).run pins s σ H Q I h
  · exact (pe_revT he).run pins s σ H Q I h⟩
/-! range(a, b) -/
def rngP2 : PV → PV → Option (List PV)
  | .int i, .int j => if (-(2 ^ 62) ≤ i ∧ i < 2 ^ 62) ∧ -(2 ^ 62) ≤ j ∧ j < 2 ^ 62 then some ((List.range (j - i).toNat).map fun (k : Nat) => PV.int (i + (k : Int))) else none
  | _, _ => none
def rngM2 (ca cb : M PV) : M (List PV) := bnd ca fun a => bnd cb fun b => lft (rngP2 a b)
theorem src_rng2 : SrcOk Y (iRng2 (tCons (den K Y ca) (tCons (den K Y cb) tNil))) K (rngM2 ca cb) := by
  intro σ H R ⟨C, W, s, at', p⟩
  refine ⟨C, W, s, at', (Pst.bnd p).imp fun d s1 W1 H1 l1 at1 p1 v rv => ⟨C, W1, s1, at1, (Pst.bnd p1).imp fun d2 s2 W2 H2 l2 at2 p2 v2 rv2 => ?_⟩⟩
  obtain ⟨e', he, q⟩ := p2.lft'
  unfold rngP2 at he
  split at he
  · split at he
    · rename_i hj
      cases he
      cases rv
      cases rv2
      exact ⟨_, _, rfl, ⟨hj.1.1, hj.1.2, hj.2.1, hj.2.2⟩, q W2 H2 (Vw.Le.refl _) at2 _ walks_rng⟩
    · cases he
  · cases he
theorem irng2 {X : Cx} {tg a b : Expr} {p pos : Pos} (hm : X.mg "range" = none) (ha : PE X a (den X.K Y ca)) (hb : PE X b (den X.K Y cb)) (hg : Gl X "range" := by rfl) (hs : starEach [a, b] X.env = [(false, eval a X.env), (false, eval b X.env)] := by rfl) (hs2 : starEach [b] X.env = [(false, eval b X.env)] := by rfl) :
    PI X tg (.Call (.Name "range" p) [a, b] [] pos) (iRng2 (tCons (den X.K Y ca) (tCons (den X.K Y cb) tNil))) := pi_range2 hg hm (pa_cons ha (pa_cons hb pa_nil hs2) (by rw [hs, hs2])) hs hs2
end
end Dn
/-! St8: x += e, x *= e of ints; min, max of a list of ints. -/
namespace Dn
open PySem L2 ClX StX NdefX PySem.Spec PyProof.Rows
section
variable {X : Cx} {Y : WX} {K : PySem.W.Frag} {C : Ctx} {W W' : Vw} {σ : L2.St} {H : Hp} {s : S} {D : Ends} {ca cb : M PV} {Q : VK} {i : Nat}
theorem ip_mulW : PIp X .Mult (rI CMulW fun i j => .int (i * j)) := by
  intro pins s σ H x y v u Q I rx ry h
  obtain ⟨i, j, rfl, rfl, hc, q⟩ := h
  obtain ⟨t, rfl⟩ := rx
  obtain ⟨t', rfl⟩ := ry
  have hok := CMulW.ok hc
  exact AutoIntOps.imul_0 ⟨.int _, H, I.tok _, ⟨_, rfl⟩, q⟩ hok
theorem den_aug {r : R2} {op : PV → PV → M PV} (hb : Bin r K op) (h : denS K Y (asgM i (bin (var i) cb op)) D σ H) : tAug i (den K Y cb) r D σ H := by
  obtain ⟨C, W, s, at', p⟩ := h
  have p1 := Pst.bnd (σ := σ) (PstS.bnd (σ := σ) p)
  unfold var at p1
  split at p1
  · rename_i d e
    obtain ⟨v, e1, r1⟩ := at'.val i d e
    have p2 := Pst.bnd (p1 W H (Vw.Le.refl W) at')
    refine ⟨v, e1, C, W, s, at', p2.imp fun b s2 W2 H2 l2 at2 p3 w rw' => ?_⟩
    exact hb _ W2 s2 σ H2 v w d b _ at2 (.rep (r1.mono l2)) (.rep rw') (p3.imp fun d s3 W3 H3 l3 at3 q v rv => q W3 _ H3 (Vw.Le.refl _) (at3.set rv i))
  · rename_i xs e
    obtain ⟨W', a, e1, l, at2, r1⟩ := at'.freeze e
    have p2 := Pst.bnd (p1 W' H l at2)
    refine ⟨.ref a, e1, C, W', _, at2, p2.imp fun b s2 W2 H2 l2 at3 p3 w rw' => ?_⟩
    exact hb _ W2 s2 σ H2 _ w _ b _ at3 (.rep (r1.mono l2)) (.rep rw') (p3.imp fun d s3 W3 H3 l3 at3 q v rv => q W3 _ H3 (Vw.Le.refl _) (at3.set rv i))
  · exact p1.elim
abbrev opMulI (a b : PV) : M PV := lft (match a, b with | .int i, .int j => if CMulW i j then some (.int (i * j)) else none | _, _ => none)
theorem bin_mulI : Bin (rI CMulW fun i j => .int (i * j)) K opMulI := by
  intro C W s σ H v w a b Q at' ra rb p
  obtain ⟨d, e, q⟩ := p.lft'
  have q0 := q W H (Vw.Le.refl W) at'
  split at e
  · split at e
    · cases e
      cases ra.int
      cases rb.int
      exact ⟨_, _, rfl, rfl, by assumption, q0 _ (.int _)⟩
    · cases e
  · cases e
theorem saugMult (i : Nat) {x : Str} {e : Expr} {pos pos' : Pos} (hc : X.calm = true) (nd : X.N.Nodup) (he : PE X e (den X.K Y cb)) (hN : X.N[i]? = some x := by rfl) (hx : Loc X.env.scope x := by first | exact Or.inl rfl | exact Or.inr rfl) (hf : X.fn x = true ∨ X.env.scope.names.lookup x = some .local := by first | exact .inl rfl | exact .inr rfl | assumption) :
    PS X (.AugAssign (.Name x pos') .Mult e pos) (denS X.K Y (asgM i (bin (var i) cb opMulI))) := ps_imp (ps_aug nd hN hx he ip_mulW hf) fun _ _ _ => den_aug bin_mulI
/-! min, max of a list of ints -/
def intsOf : List PV → Option (List Int)
  | [] => some []
  | .int x :: r => (intsOf r).map (x :: ·)
  | _ :: _ => none
theorem intsOf_ok : ∀ {ds : List PV} {xs : List Int}, intsOf ds = some xs → ds = xs.map PV.int
  | [], xs, h => by cases h; rfl
  | .int x :: r, xs, h => by
    have h : (intsOf r).map (x :: ·) = some xs := h
    obtain ⟨ys, e, rfl⟩ := Option.map_eq_some_iff.mp h
    rw [intsOf_ok e]
    rfl
  | .non :: _, _, h => by cases h
  | .bl _ :: _, _, h => by cases h
  | .str _ :: _, _, h => by cases h
  | .tup _ :: _, _, h => by cases h
  | .lst _ :: _, _, h => by cases h
  | .scr _ :: _, _, h => by cases h
  | .hnd _ :: _, _, h => by cases h
  | .obj .. :: _, _, h => by cases h
  | .exn .. :: _, _, h => by cases h
  | .dic .. :: _, _, h => by cases h
theorem intsOf_map (xs : List Int) : intsOf (xs.map PV.int) = some xs := by
  induction xs with
  | nil => rfl
  | cons x r ih => show (intsOf (r.map PV.int)).map (x :: ·) = _; rw [ih]; rfl
def minI : List Int → Option Int
  | [] => none
  | x :: r => some (r.foldl min x)
theorem minI_le : ∀ {xs : List Int} {m : Int}, minI xs = some m → m ∈ xs ∧ ∀ y ∈ xs, m ≤ y
  | x :: r, m, h => by
    have h : r.foldl min x = m := Option.some.inj h
    have key : ∀ (r : List Int) (x : Int), (r.foldl min x = x ∨ r.foldl min x ∈ r) ∧ r.foldl min x ≤ x ∧ ∀ y ∈ r, r.foldl min x ≤ y := by
      intro r
      induction r with
      | nil => intro x; exact ⟨.inl rfl, Int.le_refl _, fun y hy => nomatch hy⟩
      | cons z r ih =>
        intro x
        obtain ⟨h1, h2, h3⟩ := ih (min x z)
        rw [List.foldl_cons]
        refine ⟨?_, by omega, fun y hy => ?_⟩
        · rcases h1 with h1 | h1
          · rw [h1]
            by_cases hxz : x ≤ z
            · left; omega
            · right; rw [show min x z = z by omega]; exact List.mem_cons_self
          · exact .inr (List.mem_cons_of_mem _ h1)
        · rcases List.mem_cons.mp hy with rfl | hy
          · omega
          · exact h3 y hy
    obtain ⟨h1, h2, h3⟩ := key r x
    rw [h] at h1 h2 h3
    refine ⟨?_, fun y hy => ?_⟩
    · rcases h1 with h1 | h1
      · rw [h1]; exact List.mem_cons_self
      · exact List.mem_cons_of_mem _ h1
    · rcases List.mem_cons.mp hy with rfl | hy
      · exact h2
      · exact h3 y hy
def minLP : PV → Option PV
  | .lst ds => (intsOf ds).bind fun xs => (minI xs).map .int
  | _ => none
abbrev fMinL (a : PV) : M PV := lft (minLP a)
theorem fn_minL : Fn1 (rMin K) K fMinL := by
  intro C W s σ H v a Q at' ra p
  obtain ⟨d, e, q⟩ := p.lft'
  have q0 := q W H (Vw.Le.refl W) at'
  unfold minLP at e
  split at e
  · rename_i ds
    obtain ⟨xs, e1, e2⟩ := Option.bind_eq_some_iff.mp e
    obtain ⟨m, e3, rfl⟩ := Option.map_eq_some_iff.mp e2
    have hds := intsOf_ok e1
    subst hds
    obtain ⟨x, vs, rfl, hx, rx⟩ := ra.lst at'.ok.sub
    have hvs := rx.of_ints
    subst hvs
    obtain ⟨h1, h2⟩ := minI_le e3
    refine ⟨x, xs, rfl, SqL.of hx, List.length_pos_of_mem h1, fun m' h3 h4 => ?_⟩
    have : m' = m := Int.le_antisymm (h4 m h1) (h2 m' h3)
    subst this
    exact q0 _ (.int _)
  · cases e
theorem xminL {e : Expr} {ce : M PV} {p pos : Pos} (hc : X.calm = true) (hm : X.mg "min" = none) (ha : PE X e (den X.K Y ce)) (hg : Gl X "min" := by rfl) (he : starEach [e] X.env = (false, eval e X.env) :: starEach [] X.env := by rfl) : PE X (.Call (.Name "min" p) [e] [] pos) (den X.K Y (bnd ce fMinL)) := xb (cr_min hc) fn_minL PyProof.Rows.Boot.«min» hm ha hg (he := he)
end
end Dn
/-! St9: a, b = a list. -/
namespace Dn
open PySem L2 ClX StX NdefX PySem.Spec PyProof.Rows
end Dn
/-! St10: * of cells of any size; the law's end with the script's bits. -/
namespace Dn
open PySem L2 ClX StX NdefX PySem.Spec PyProof.Rows
theorem log_of_bits {z : Int} (h : Builtin.Int.intBits z ≤ 1048576) : z.natAbs.log2 ≤ 1048576 := by
  unfold Builtin.Int.intBits at h
  split at h
  · rename_i hz
    have : z = 0 := by simpa using hz
    subst this
    decide
  · omega
/-- * of factors of together less than a hundred million bits -/
def CMulV (i j : Int) : Prop := i.natAbs.log2 + j.natAbs.log2 < 100000000
instance (i j : Int) : Decidable (CMulV i j) := inferInstanceAs (Decidable (_ < _))
theorem CMulV.ok {i j : Int} (h : CMulV i j) : IntMulOk i j := by
  have b : ∀ x : Int, Builtin.Int.intBits x ≤ x.natAbs.log2 + 1 := fun x => by
    unfold Builtin.Int.intBits
    split <;> omega
  have h1 := b i
  have h2 := b j
  have h3 : i.natAbs.log2 + j.natAbs.log2 < 100000000 := h
  have e : bitsLine = 134217728 := by decide
  unfold IntMulOk
  intro z
  rw [Bool.and_eq_true] at z
  have z2 := z.2
  unfold Builtin.Int.intTooBig at z2
  have z3 := of_decide_eq_true z2
  rw [e] at z3
  omega
section
variable {X : Cx} {Y : WX} {K : PySem.W.Frag} {a b : Expr} {ca cb : M PV} {pos : Pos}
theorem op_mulV : OpR X (binaryOp .Mult) (rI CMulV fun i j => .int (i * j)) := opI fun _ _ _ _ _ _ _ hc q => mul_int q (CMulV.ok hc)
def mulVP : PV → PV → Option PV
  | .int a, .int b => if CMulV a b then some (.int (a * b)) else none
  | _, _ => none
abbrev opMulV (a b : PV) : M PV := lft (mulVP a b)
theorem bin_mulV : Bin (rI CMulV fun i j => .int (i * j)) K opMulV := by
  intro C W s σ H v w a b Q at' ra rb p
  obtain ⟨d, e, q⟩ := p.lft'
  have q0 := q W H (Vw.Le.refl W) at'
  unfold mulVP at e
  split at e
  · split at e
    · cases e
      cases ra.int
      cases rb.int
      exact ⟨_, _, rfl, rfl, by assumption, q0 _ (.int _)⟩
    · cases e
  · cases e
theorem xmulV (ha : PE X a (den X.K Y ca)) (hb : PE X b (den X.K Y cb)) : PE X (.BinOp a .Mult b pos) (den X.K Y (bin ca cb opMulV)) := pe_imp (pe_op op_mulV ha hb) fun _ _ _ => den_bin bin_mulV
end
theorem law_denB {l : PySem.W.OpenLaw} {k : Nat} {q : Program} {loose : List Str} {XP : (Str → Option Value) → Heap → Prop} {YP : World → Heap → Prop} {d : DefRec} {K : Params → PySem.W.Frag} {x : Str} {m : Fn}
    (hn : l.most = some 63) (hdf : d.params.defaults = []) (hr : Room k callerA) (hY : ∀ (w : World) (h : Heap), YP w h → (K w.params).In h)
    (F : ∀ (w : World) (mg : Str → Option Value) (fa : Addr) (h : Heap), (K w.params).In h → h.Ns mainGlobals mg → mg d.name = some (.ref fa) →
      ∃ fd : FuncData, (∀ (s : Shared) (u : Value), BindsTo s fd ⟨[u], []⟩ [(x, u)]) ∧
        ∀ base : Heap, (K w.params).In base → base.Ns mainGlobals mg → FnG l.prog w (K w.params) mg base (L2.CX l.prog w) k fa fd [x] (spM (K w.params) 1 m))
    (hm : ∀ ns : List Int, ns.length ≤ 63 → (∀ z ∈ ns, z.natAbs.log2 ≤ 1048576) → ∃ n st, m n [.scr ns] [] = .ok (.bl true) st) :
    PySem.W.WalkO q loose XP YP l.row.toRowW d [] (fun f vs => PySem.call f vs) := by
  refine Att.attach_callB hn hdf fun w s₀ s₁ mg mb fa o pm cd doc a vs ns G Y ho hd hcd hmg hobj hints hlen hbits hg => ?_
  have KX := hY w _ Y
  obtain ⟨fd, hbind, hF⟩ := F w mg fa _ KX G.T.g hmg
  have rv : Vals (ns.map V.int) vs := vals_ints hints
  have hsz : vs.length = ns.length := hints.length
  have hline : ns.length ≤ sizeLine := Nat.le_trans hlen (by decide)
  -- the abstract heap: the script alone
  obtain ⟨H, hH⟩ : ∃ H, H = scrH (K w.params) a { cls := .type "list", data := .seq vs.toArray } ns := ⟨_, rfl⟩
  have only : ∀ {b u}, H b = some u → b = a ∧ (K w.params).lookup a = none ∧ u = .frz { cls := .type "list", data := .seq vs.toArray } (.lst (ns.map V.int)) := fun {b u} e => by
    rw [hH] at e
    unfold scrH at e
    split at e
    · rename_i hc
      cases e
      exact ⟨hc.1, hc.2, rfl⟩
    · cases e
  have look : ∀ {b o es ep}, s₁.heap.get? b = some o → o.data = .dict es ep → H b = none := fun {b o es ep} e ed => by
    cases z : H b with
    | none => rfl
    | some u =>
      obtain ⟨rfl, _, _⟩ := only z
      rw [hobj] at e
      cases e
      cases ed
  have hok : HOk l.prog w H s₁.heap := fun b u e => by
    obtain ⟨rfl, _, rfl⟩ := only e
    exact ⟨hobj, by rw [List.length_map]; exact hline, vs, _, rv, hobj⟩
  have hS : SqL (K w.params) H a (ns.map V.int) := by
    cases hk : (K w.params).lookup a with
    | none =>
      refine .inl (.inr ⟨{ cls := .type "list", data := .seq vs.toArray }, ?_⟩)
      rw [hH]
      exact if_pos ⟨rfl, hk⟩
    | some ob =>
      have e := KX a ob hk
      rw [hobj] at e
      cases e
      exact .inr ⟨_, vs.toArray, _, hk, rfl, rfl, rfl, by rw [List.size_toArray, hsz]; exact hline, rv⟩
  have ns_in : ∀ {b m}, s₁.heap.Ns b m → (hidT s₁.heap H).Ns b m := fun {b m} ⟨o, es, ep, e, ed, r⟩ => ⟨o, es, ep, hidT_get e (look e ed), ed, r⟩
  have kin : (K w.params).In (hidT s₁.heap H) := fun b ob e => hidT_get (KX b ob e) (by
    cases z : H b with
    | none => rfl
    | some u =>
      obtain ⟨rfl, hz, _⟩ := only z
      rw [hz] at e
      cases e)
  obtain ⟨mc, n1, n2⟩ := G.T.nolimit
  have e0 : Env0 l.prog w (K w.params) mg (hidT s₁.heap H) callerA [] s₁ H :=
    ⟨rfl, ⟨kin, ns_in G.T.g, ⟨mb, ns_in G.T.b, G.T.builtins⟩, ⟨mc, ns_in n1, n2⟩⟩, fun b ob e => of_hidT e, Nat.le_of_eq (hidT_size _ _), trivial, fun b hb => (nomatch hb), hok, .of_eq hg⟩
  obtain ⟨n, st, run⟩ := hm ns hlen fun z hz => log_of_bits (hbits z hz)
  have sp : spM (K w.params) 1 m [.ref a] H (fun v _ => v = .bl true) (fun _ _ _ => False) := by
    refine ⟨rfl, n, ⟨H, []⟩, [], [.scr ns], ⟨Same.refl H, fun i b e => ?_, List.nodup_nil, rfl⟩, .cons (.scr hS) .nil, ?_⟩
    · exact absurd e (by simp)
    · rw [run]
      intro v W' H' _ _ _ r
      cases r
      rfl
  refine codeAny_mono ((hF _ kin (ns_in G.T.g)).run callerA [] s₁ H ⟨[.ref a], []⟩ [.ref a] [.ref a] _ _ rfl hr e0 (hbind s₁ (.ref a)) (.cons rfl .nil) sp) fun r s' hq => ?_
  cases r with
  | error e =>
    obtain ⟨_, _, _, _, _, _, _, _, _, _, _, _, w⟩ := hq
    exact w.elim
  | ok fl =>
    cases fl with
    | next => exact False.elim hq
    | brk => exact False.elim hq
    | cont => exact False.elim hq
    | ret u =>
      obtain ⟨v, H', os, bare, un, hok', ru, hv⟩ := hq
      subst hv
      obtain rfl : u = Value.bool true := ru
      refine ⟨rfl, OldK.of_keep fun b ob e => ?_, os, bare⟩
      cases z : H b with
      | none => exact un.keep b ob e z (fun q => nomatch q) (fun q => nomatch q)
      | some t =>
        obtain ⟨rfl, _, rfl⟩ := only z
        obtain ⟨k1, _⟩ := hok' b _ (un.frzs b _ _ z)
        rw [hobj] at e
        cases e
        exact k1
end Dn
/-! St11: len() of own instances with an own `__len__`. -/
namespace Dn
open PySem L2 ClX StX PySem.Spec PyProof.Rows
section
variable {prog : Program} {w : World} {A : Around} {E : Value → Shared → Prop} {s : Shared} {K : PySem.W.Frag} {x C f : Addr} {ox : Obj} {od : Option Obj}
theorem len_own {Q : Value → Shared → Prop} (X : K.In s.heap) (I : PySem.W.InstAt s.heap x ox C od) (hs : PySem.W.findIn K (.ref C) "__len__" = some (some (.ref f))) (hf : PySem.W.isFn K (.ref f) = true)
    (h : wpAny (model prog w) A.in1 (call (.ref f) [.ref x]) (fun r s' => ∃ i t, r = .int i t ∧ 0 ≤ i ∧ i < 2 ^ 63 ∧ ∀ t' tk, Q (.int i t') { s' with toks := tk }) E s) : wpAny (model prog w) A (call (.builtin "len") [.ref x]) Q E s := by
  refine PySem.Calls.call_function_entry PySem.kind_len PySem.plain_len PySem.entry_len (PySem.args_len1 _) ?_
  unfold Builtin.«len»
  refine wpAny_bind (m := oneArg "len" _) (wpAny_pure ?_)
  refine wpAny_bind (m := callSpecial? (.ref x) (Str.ofString "__len__")) (PySem.W.special_fn X I hs (beq_iff_eq.mp hf) (wpAny_mono h (fun r s' hr => ?_) fun _ _ y => y))
  obtain ⟨i, t, rfl, h0, h1, q⟩ := hr
  refine wpAny_bind (wpAny_holding (wpAny_pure ?_))
  refine wpAny_bind (wpAny_letGo ?_)
  show wpAny _ _ (if i < 0 then _ else _) _ _ _
  rw [if_neg (by omega)]
  show wpAny _ _ (if i ≥ 2 ^ 63 then _ else _) _ _ _
  rw [if_neg (by omega)]
  exact wpAny_bind (wpAny_mkInt (wpAny_pure ⟨_, rfl, q _ _⟩))
end
/-- a def runs on values, one step deeper -/
theorem run_ent1 {Y : WX} {X : Cx} {k n : Nat} {pins : List (Addr × Obj)} {s : Shared} {σ : L2.St} {H : Hp} {g : Addr} {mf : Fn} {vs : List V} {us : List Value} {Qv : VK} (I : Inv X pins σ H s) (hgd : X.A.guards = some []) (hr : Room (k + 1) X.A) (tY : Takes X Y)
    (F : Ent X.prog X.w X.K X.mg X.base k g n n [] mf) (rv : Vals vs us) (hn : vs.length = n) (h : spM X.K n mf vs H Qv (WE Y σ)) :
    wpAny (model X.prog X.w) X.A.in1 (call (.ref g) us) (EP X pins σ Qv) X.xe s := by
  obtain ⟨fd, ps, hnp, G, hb⟩ := F.ex
  have bd := hb.to s us [] I.kIn (rv.length.symm.trans hn) rfl
  have rr := hb.rel (vs := vs) (us := us) (zs := []) (ws := []) rv .nil
  rw [List.append_nil] at rr
  have go := G.run X.A.in1 X.stack s H _ _ _ Qv (WE Y σ) hgd hr.in1 I.env0.in1 bd rr h
  refine wpAny_call (codeAny_mono go fun res s' hq => ?_)
  match res, hq with
  | .error er, hq => exact passAt tY σ pins _ _ er s' I hq
  | .ok (.ret u), hq => exact I.after hq
  | .ok .next, hq => exact False.elim hq
  | .ok .brk, hq => exact False.elim hq
  | .ok .cont, hq => exact False.elim hq
/-! ### calls of built-ins that may raise -/
def CallRS (X : Cx) (f : Value) (r : L2.St → List V → Hp → VK → Prop) : Prop :=
  ∀ (pins : List (Addr × Obj)) (s : Shared) (σ : L2.St) (H : Hp) (xs : List V) (us : List Value) (Q : VK), Inv X pins σ H s → Vals xs us → r σ xs H Q → wpAny (model X.prog X.w) X.A (call f us) (EP X pins σ Q) X.xe s
def tCBS (r : L2.St → List V → Hp → VK → Prop) (t : TA) : TE := fun σ H Q => t σ H fun vs H1 => r σ vs H1 Q
section
variable {X : Cx} {x : Str} {id : String} {e : Expr} {es : List Expr} {r : L2.St → List V → Hp → VK → Prop} {t : TA} {p pos : Pos}
theorem pe_callBS (hc : CallRS X (.builtin id) r) (hg : Gl X x) (hm : X.mg x = none) (hv : bootBuiltins x = some (.builtin id)) (ha : PA X (e :: es) t) (hn : x ≠ "__name__" := by decide) (hdb : (x == ("__debug__" : Str)) = false := by decide)
    (he : starEach (e :: es) X.env = (false, eval e X.env) :: starEach es X.env := by rfl) (hpl : (backTo pos (starEach es X.env)).any (·.1) = false := by rfl) : PE X (.Call (.Name x p) (e :: es) [] pos) (tCBS r t) := by
  refine ⟨fun pins s σ H Q I h => ?_⟩
  refine wpAny_Call_Name_kw (ld_blt I hg hm hv ?_ hn hdb)
  exact PyProof.Rows.callWith_builtin1 (thn (ha.run pos pins s σ H _ I h) fun us s1 ⟨vs, H1, I1, r1, q1⟩ => hc pins s1 σ H1 vs us Q I1 r1 q1) he hpl
end
structure LenC (K : PySem.W.Frag) (C g : Addr) : Prop where
  he : PySem.W.findIn K (.ref C) "__len__" = some (some (.ref g))
  fn : PySem.W.isFn K (.ref g) = true
structure LenTab (P : Program) (w : World) (K : PySem.W.Frag) (mg : Str → Option Value) (base : Heap) (k : Nat) (tab : List (Str × Fn)) : Prop where
  ok : ∀ c mf, tab.lookup c = some mf → ∃ C g, ClsAt K c C ∧ LenC K C g ∧ Ent P w K mg base k g 1 1 [] mf
def lenR (d : PV) : M PV := match d with
  | .int i => if 0 ≤ i ∧ i < 2 ^ 63 then ret (.int i) else stuck
  | _ => stuck
def lenO (tab : List (Str × Fn)) (n : Nat) (a : PV) : M PV := fun s => match insOf s a with
  | none => fLen a s
  | some (c, _, _) => match tab.lookup c with
    | none => .stk
    | some f => bnd (runM f n [a]) lenR s
section
variable {Y : WX} {K : PySem.W.Frag} {σ : L2.St} {H : Hp} {Q : VK} {ca : M PV}
def rLenO (P : Program) (w : World) (K : PySem.W.Frag) (mg : Str → Option Value) (base : Heap) (k : Nat) (Y : WX) : L2.St → List V → Hp → VK → Prop := fun σ xs H Q => rLen K xs H Q ∨ ∃ (a C dx : Addr) (fs : List (Str × V)) (g : Addr) (mf : Fn), xs = [.ref a] ∧ H a = some (.ins C dx fs) ∧ LenC K C g ∧ Ent P w K mg base k g 1 1 [] mf ∧
  spM K 1 mf [.ref a] H (fun y H' => ∃ i : Int, y = .int i ∧ 0 ≤ i ∧ i < 2 ^ 63 ∧ Q (.int i) H') (WE Y σ)
theorem call_lenO {X : Cx} {k : Nat} (hgd : X.A.guards = some []) (hr : Room (k + 1) X.A) (tY : Takes X Y) : CallRS X (.builtin "len") (rLenO X.prog X.w X.K X.mg X.base k Y) := by
  intro pins s σ H xs us Q I r h
  rcases h with h | ⟨a, C, dx, fs, g, mf, rfl, ha, c, F, hsp⟩
  · exact call_len pins s σ H xs us Q I r h
  · obtain ⟨u, rfl, ru⟩ := vals1 r
    obtain rfl : u = Value.ref a := ru
    obtain ⟨ox, od, J, _⟩ := StX.insC_at (C := C) I (.inr ⟨dx, fs, ha⟩)
    refine len_own I.kIn J c.he c.fn (thn (run_ent1 I hgd hr tY F (.cons (show L2.RelV (.ref a) (.ref a) from rfl) .nil) rfl hsp) fun z s' hz => ?_)
    obtain ⟨zv, H', I', rz, i, rfl, h0, h1, q⟩ := hz
    obtain ⟨t, rfl⟩ := rz
    exact ⟨i, t, rfl, h0, h1, fun t' tk => ⟨.int i, H', I'.tok _, ⟨t', rfl⟩, q⟩⟩
theorem den_lenO {P : Program} {w : World} {mg : Str → Option Value} {base : Heap} {k n : Nat} {tab : List (Str × Fn)} (T : LenTab P w K mg base k tab) (h : den K Y (bnd ca (lenO tab n)) σ H Q) : tCBS (rLenO P w K mg base k Y) (tCons (den K Y ca) tNil) σ H Q := by
  obtain ⟨C, W, s, at', p⟩ := h
  refine ⟨C, W, s, at', (Pst.bnd p).imp fun a s1 W1 H1 l1 at1 p1 v rv => ?_⟩
  unfold lenO at p1
  cases e : insOf s1 a with
  | none =>
    simp only [e] at p1
    exact .inl (fn_len _ W1 s1 σ H1 v a Q at1 (.rep rv) p1)
  | some t =>
    obtain ⟨c, ks, vs⟩ := t
    simp only [e] at p1
    cases e1 : tab.lookup c with
    | none => simp only [e1] at p1; exact p1.elim
    | some mf =>
      simp only [e1] at p1
      obtain ⟨ad, Cc, dx, us, rfl, h1, h2, _, _⟩ := insOf_rep at1 rv e
      obtain ⟨C2, g, k1, k3, F⟩ := T.ok c mf e1
      cases cls_uniq h1 k1
      refine .inr ⟨ad, _, dx, _, g, mf, rfl, h2, k3, F, ?_⟩
      refine sp_run F.len at1 (.cons rv .nil) ((Pst.bnd p1).imp fun d s2 W2 H2 l2 at2 p2 y ry => ?_)
      unfold lenR at p2
      split at p2
      · split at p2
        · cases ry
          exact ⟨_, rfl, by omega, by omega, p2 W2 H2 (Vw.Le.refl W2) at2 _ (.int _)⟩
        · exact p2.elim
      · exact p2.elim
end
section
variable {Y : WX} {X : Cx} {j k : Nat} {tab : List (Str × Fn)} {e : Expr} {p pos : Pos} {ce : M PV}
theorem xlenO (n : Nat) (T : LenTab X.prog X.w X.K X.mg X.base j tab) (hgd : X.A.guards = some []) (hr : Room k X.A) (tY : Takes X Y) (hjk : j + 1 ≤ k) (hm : X.mg "len" = none) (ha : PE X e (den X.K Y ce)) (hg : Gl X "len" := by rfl) (he : starEach [e] X.env = (false, eval e X.env) :: starEach [] X.env := by rfl) :
    PE X (.Call (.Name "len" p) [e] [] pos) (den X.K Y (bnd ce (lenO tab n))) := pe_imp (pe_callBS (call_lenO hgd (hr.mono hjk) tY) hg hm bo_len (pa_cons ha pa_nil he) (he := he)) fun _ _ _ => den_lenO T
end
/-! ### in rows -/
def LenP (K : PySem.W.Frag) (c x qual : Str) (st : Stmt) (ps : List Str) : Prop := ∃ C g fd, ClsAt K c C ∧ LenC K C g ∧ Fun K x qual st g fd ∧ KB K fd ps 1 []
section
variable {P : Program} {w : World} {K : PySem.W.Frag} {mg : Str → Option Value} {base : Heap} {k j nn : Nat} {c x qual : Str} {st : Stmt} {ps : List Str} {body : Nat → M Fl} {np : Nat} {tab : List (Str × Fn)}
theorem len0 : LenTab P w K mg base k [] := ⟨fun c mf h => nomatch h⟩
theorem lenC (G : Pr P w K mg base j x qual st ps (fnM np nn body)) (Z : LenP K c x qual st ps) (hjk : j ≤ k) (e : ps.length = np) (e2 : np = 1) (T : LenTab P w K mg base k tab) : LenTab P w K mg base k ((c, fnM np nn body) :: tab) := ⟨fun d mf h => by
  rcases look_cons h with ⟨rfl, rfl⟩ | h
  · obtain ⟨C, g, fd, h1, h3, F, hb⟩ := Z
    subst e2
    exact ⟨C, g, h1, h3, FnG.up (ent_row G F hb e) hjk⟩
  · exact T.ok d mf h⟩
end
end Dn
namespace Lw
open PySem Dn PySem.Spec PyProof.Rows ClX StX NdefX
open L2 hiding bin
def top (i : Nat) : Stmt := PySem.Challenge.pw_rounddown_k74_whole_better_routes_chain.main.body.getD i (.Pass ⟨0, 0, 0, 0⟩)
abbrev s_law_pen : Stmt := top 45
abbrev s_law_draw : Stmt := top 46
abbrev s_law_pick : Stmt := top 47
abbrev s_law_names : Stmt := top 48
abbrev s_law_part : Stmt := top 49
abbrev s_law_bettered : Stmt := top 52
abbrev s_is_name : Stmt := top 27
abbrev s_need_name : Stmt := top 28
abbrev s_Office_source : Stmt := clsDef (top 34) 8
abbrev s_Office_goal : Stmt := clsDef (top 34) 9
abbrev s_Route_init : Stmt := clsDef (top 43) 1
abbrev s_Route_add : Stmt := clsDef (top 43) 8
abbrev s_is_integer : Stmt := top 26
abbrev s_is_rate : Stmt := top 33
abbrev s_need_integer : Stmt := top 29
abbrev s_Office_init : Stmt := clsDef (top 34) 4
abbrev s_CappedOffice_init : Stmt := clsDef (top 35) 1
abbrev s_law_one : Stmt := top 50
abbrev s_law_joined : Stmt := top 51
abbrev s_Route_end : Stmt := clsDef (top 43) 11
abbrev s_Route_start : Stmt := clsDef (top 43) 10
abbrev s_Route_offices : Stmt := clsDef (top 43) 12
abbrev s_Office_most : Stmt := clsDef (top 34) 13
abbrev s_CappedOffice_most : Stmt := clsDef (top 35) 2
abbrev s_Route_len : Stmt := clsDef (top 43) 4
abbrev s_need_alike : Stmt := top 13
abbrev s_Office_rate : Stmt := clsDef (top 34) 10
abbrev s_reduced : Stmt := top 40
abbrev s_times : Stmt := top 41
abbrev s_Route_rate : Stmt := clsDef (top 43) 14
abbrev s_Office_least : Stmt := clsDef (top 34) 12
abbrev s_Office_fee : Stmt := clsDef (top 34) 11
abbrev s_regular_from : Stmt := top 14
abbrev s_common_multiple : Stmt := top 18
abbrev s_product : Stmt := top 15
abbrev s_divisor : Stmt := top 17
abbrev s_Office_result : Stmt := clsDef (top 34) 17
abbrev s_CappedOffice_result : Stmt := clsDef (top 35) 4
abbrev s_Route_result : Stmt := clsDef (top 43) 18
abbrev s_is_worse : Stmt := top 19
abbrev s_rise : Stmt := top 16
abbrev s_first_worse : Stmt := top 20
abbrev s_relation : Stmt := top 21
abbrev s_law : Stmt := top 53
structure Zt (P : Program) (K : PySem.W.Frag) (mg : Str → Option Value) : Prop where
  b_list : mg "list" = none
  fn_law_pen : FnP K mg "_law_pen" s_law_pen ["_law_script"]
  b_len : mg "len" = none
  b_min : mg "min" = none
  b_range : mg "range" = none
  b_int : mg "int" = none
  b_abs : mg "abs" = none
  fn_law_draw : FnP K mg "_law_draw" s_law_draw ["_law_pen_here", "_law_many"]
  fn_law_pick : FnP K mg "_law_pick" s_law_pick ["_law_pen_here", "_law_some"]
  fn_law_names : FnP K mg "_law_names" s_law_names ["_law_pen_here", "_law_many"]
  fn_law_part : FnP K mg "_law_part" s_law_part ["_law_pen_here", "_law_label", "_law_source", "_law_goal", "_law_top"]
  fn_law_bettered : FnP K mg "_law_bettered" s_law_bettered ["_law_pen_here", "_law_one_here", "_law_label"]
  gs_ALPHABET : StrP mg "ALPHABET" "abcdefghijklmnopqrstuvwxyz"
  b_all : mg "all" = none
  gi_LETTERS : IntP mg "LETTERS" 8
  b_isinstance : mg "isinstance" = none
  b_str : mg "str" = none
  fn_is_name : FnP K mg "is_name" s_is_name ["value"]
  fn_need_name : FnP K mg "need_name" s_need_name ["value"]
  is_Office : ∃ D, mg "Office" = some (.ref D) ∧ IsoTab K D [("Office", true), ("CappedOffice", true), ("Route", false)]
  b_enumerate : mg "enumerate" = none
  fo_own_ends : FldOk K "own_ends" ["Office", "CappedOffice"]
  pp_CappedOffice_source : PrpP K "CappedOffice" "source" "Office.source" s_Office_source
  pp_Office_source : PrpP K "Office" "source" "Office.source" s_Office_source
  pp_CappedOffice_goal : PrpP K "CappedOffice" "goal" "Office.goal" s_Office_goal
  pp_Office_goal : PrpP K "Office" "goal" "Office.goal" s_Office_goal
  co_LENGTH : ConOk K "LENGTH" 1000 ["Route"]
  fo_own_start : FldOk K "own_start" ["Route"]
  fo_own_end : FldOk K "own_end" ["Route"]
  fo_own_offices : FldOk K "own_offices" ["Route"]
  mv_Route : MkVP K mg "Route" "Route.__init__" s_Route_init ["self", "start"] "offices"
  bo_Route_add : BopP K "Route" "add" "__add__" "Route.__add__" s_Route_add ["self", "other"]
  ot_Route_CappedOffice_add : OthP K "Route" "CappedOffice" "add"
  ot_Route_Office_add : OthP K "Route" "Office" "add"
  bb_Route_add : BopB K "Route" "add" []
  b_tuple : mg "tuple" = none
  b_bool : mg "bool" = none
  fk_is_integer_1_least_most : FnKP K mg "is_integer" s_is_integer ["value", "least", "most"] 1 ["least", "most"]
  ca_Office_RATE : CatP K mg "Office" "RATE" 9
  fn_is_rate : FnP K mg "is_rate" s_is_rate ["value"]
  fk_need_integer_1_least_most : FnKP K mg "need_integer" s_need_integer ["value", "least", "most"] 1 ["least", "most"]
  co_FEE : ConOk K "FEE" 20 ["Office", "CappedOffice"]
  co_LEAST : ConOk K "LEAST" 1000 ["Office", "CappedOffice"]
  fo_name : FldOk K "name" ["Office", "CappedOffice"]
  fo_own_rate : FldOk K "own_rate" ["Office", "CappedOffice"]
  fo_own_fee : FldOk K "own_fee" ["Office", "CappedOffice"]
  fo_own_least : FldOk K "own_least" ["Office", "CappedOffice"]
  mk_Office_4_fee_least : MkP K mg "Office" "Office.__init__" s_Office_init ["self", "name", "source", "goal", "rate", "fee", "least"] 4 ["fee", "least"]
  su_CappedOffice_CappedOffice_init_5_fee_least : SupP K "CappedOffice" "CappedOffice" "__init__" "Office.__init__" s_Office_init ["self", "name", "source", "goal", "rate", "fee", "least"] 5 ["fee", "least"]
  co_MOST : ConOk K "MOST" 1000000 ["CappedOffice"]
  fo_own_most : FldOk K "own_most" ["CappedOffice"]
  mk_CappedOffice_4_most_fee_least : MkS P K mg "CappedOffice" "CappedOffice.__init__" "CappedOffice" s_CappedOffice_init ["self", "name", "source", "goal", "rate", "most", "fee", "least"] 4 ["most", "fee", "least"]
  fn_law_one : FnP K mg "_law_one" s_law_one ["_law_one_here"]
  fn_law_joined : FnP K mg "_law_joined" s_law_joined ["_law_start", "_law_offices"]
  pp_Route_end : PrpP K "Route" "end" "Route.end" s_Route_end
  pp_Route_start : PrpP K "Route" "start" "Route.start" s_Route_start
  pp_Route_offices : PrpP K "Route" "offices" "Route.offices" s_Route_offices
  pp_CappedOffice_most : PrpP K "CappedOffice" "most" "CappedOffice.most" s_CappedOffice_most
  pp_Office_most : PrpP K "Office" "most" "Office.most" s_Office_most
  ln_Route : LenP K "Route" "__len__" "Route.__len__" s_Route_len ["self"]
  gi_LONGEST_ROUTE : IntP mg "LONGEST_ROUTE" 2
  fn_need_alike : FnP K mg "need_alike" s_need_alike ["one", "other"]
  pp_CappedOffice_rate : PrpP K "CappedOffice" "rate" "Office.rate" s_Office_rate
  pp_Office_rate : PrpP K "Office" "rate" "Office.rate" s_Office_rate
  fn_reduced : FnP K mg "reduced" s_reduced ["numerator", "denominator"]
  fn_times : FnP K mg "times" s_times ["one", "other"]
  pp_Route_rate : PrpP K "Route" "rate" "Route.rate" s_Route_rate
  pp_CappedOffice_least : PrpP K "CappedOffice" "least" "Office.least" s_Office_least
  pp_Office_least : PrpP K "Office" "least" "Office.least" s_Office_least
  pp_CappedOffice_fee : PrpP K "CappedOffice" "fee" "Office.fee" s_Office_fee
  pp_Office_fee : PrpP K "Office" "fee" "Office.fee" s_Office_fee
  b_max : mg "max" = none
  fn_regular_from : FnP K mg "regular_from" s_regular_from ["route"]
  fn_common_multiple : FnP K mg "common_multiple" s_common_multiple ["one", "other"]
  fn_product : FnP K mg "product" s_product ["numbers"]
  fn_divisor : FnP K mg "divisor" s_divisor ["route"]
  su_CappedOffice_CappedOffice_result_2 : SupP K "CappedOffice" "CappedOffice" "result" "Office.result" s_Office_result ["self", "coins"] 2 []
  me_CappedOffice_result_2 : MthS P K mg "CappedOffice" "result" "CappedOffice.result" "CappedOffice" s_CappedOffice_result ["self", "coins"] 2 []
  me_Office_result_2 : MthP K "Office" "result" "Office.result" s_Office_result ["self", "coins"] 2 []
  me_Route_result_2 : MthP K "Route" "result" "Route.result" s_Route_result ["self", "coins"] 2 []
  fn_is_worse : FnP K mg "is_worse" s_is_worse ["one", "other", "amount"]
  fn_rise : FnP K mg "rise" s_rise ["route", "width"]
  fn_first_worse : FnP K mg "first_worse" s_first_worse ["one", "other"]
  fn_relation : FnP K mg "relation" s_relation ["one", "other"]
section
variable {P : Program} {w : World} {K : PySem.W.Frag} {mg : Str → Option Value} {base : Heap}
/-! ### _law_pen: 0 _law_script -/
theorem sc_law_pen : FnScope ["_law_script"] ["_law_script"] (defScope s_law_pen) := ⟨rfl, rfl, rfl, by decide +kernel, rfl, by decide +kernel, by decide +kernel⟩
def b_law_pen (n : Nat) : M Fl :=
  (retM (dispM (("cells", (lstM (bnd (slM (var 0) parN (parS (ret (.int 63)))) fList))) :: ("spot", (ret (.int 0))) :: ("rest", (ret (.int 0))) :: [])))
def m_law_pen : Fn := fnM 1 1 b_law_pen
set_option maxHeartbeats 4000000 in
theorem pr_law_pen (Z : Zt P K mg) : Pr P w K mg base 1 "_law_pen" "_law_pen" s_law_pen ["_law_script"] m_law_pen :=
  pr_mk sc_law_pen (by decide) fun f cdv A outer s H E n hgd hr tk ow => by
    have nd := sc_law_pen.nd
    have hu := roomU hr
    exact (bone (sret (xdisp (kC (xo (olist Z.b_list (xsl (xv 0) qN (qS xint)))) (kC xint (kC xint kN))))))
/-! ### _law_draw: 0 _law_pen_here, 1 _law_many, 2 _law_digit, 3 _law_spot, 4 _law_cell, 5 _law_mixed -/
theorem sc_law_draw : FnScope ["_law_pen_here", "_law_many", "_law_digit", "_law_spot", "_law_cell", "_law_mixed"] ["_law_pen_here", "_law_many"] (defScope s_law_draw) := ⟨rfl, rfl, rfl, by decide +kernel, rfl, by decide +kernel, by decide +kernel⟩
def b_law_draw (n : Nat) : M Fl :=
  (seqM (ifM (asB (bin (bin (var 0) (ret (.str "rest")) hgetP) (ret (.int 0)) opGt)) (seqM (asgM 2 (bin (bnd (bin (var 0) (ret (.str "rest")) hgetP) fInt) (var 1) opMod))
    (seqM (hputM (var 0) (ret (.str "rest")) (bin (bin (var 0) (ret (.str "rest")) hgetP) (var 1) opDiv))
    (retM (var 2)))) skipM)
    (seqM (par2 3 4 (bin (var 0) (ret (.str "spot")) hgetP) (ret (.int 0)))
    (seqM (hputM (var 0) (ret (.str "spot")) (bin (var 3) (ret (.int 1)) opAdd))
    (seqM (ifM (asB (bin (bin (var 0) (ret (.str "cells")) hgetP) (lstM (fits argN)) opNe)) (asgM 4 (bin (bin (var 0) (ret (.str "cells")) hgetP) (bin (bnd (var 3) fInt) (bnd (bin (var 0) (ret (.str "cells")) hgetP) fLen) opMod) opIx)) skipM)
    (seqM (ifM (andT (asB (bin (var 3) (bnd (bin (var 0) (ret (.str "cells")) hgetP) fLen) opLt)) (asB (bin (bnd (var 4) fAbs) (bin (ret (.int 10)) (ret (.int 18)) opPow) opGe))) (seqM (hputM (var 0) (ret (.str "rest")) (bin (bin (bnd (var 4) fAbs) (bin (ret (.int 10)) (ret (.int 18)) opPow) opSub) (var 1) opDiv))
    (retM (bin (bin (bnd (var 4) fAbs) (bin (ret (.int 10)) (ret (.int 18)) opPow) opSub) (var 1) opMod))) skipM)
    (seqM (asgM 5 (bin (bin (bin (bin (var 4) (bin (bin (ret (.int 83)) (var 3) opMulV) (var 3) opMulV) opAdd) (bin (ret (.int 41)) (var 3) opMulV) opAdd) (ret (.int 7)) opAdd) (ret (.int 2862933555777941757)) opMulV))
    (seqM (asgM 5 (bin (bnd (bin (var 5) (bin (ret (.int 3037000493)) (bin (var 3) (ret (.int 1)) opAdd) opMulV) opAdd) fInt) (ret (.int 18446744073709551533)) opMod))
    (seqM (asgM 5 (bin (bnd (bin (var 5) (bin (var 5) (ret (.int 1181783497)) opAdd) opMulV) fInt) (ret (.int 18446744073709551533)) opMod))
    (retM (bin (bnd (bin (var 5) (ret (.int 4294967291)) opDiv) fInt) (var 1) opMod))))))))))
def m_law_draw : Fn := fnM 2 6 b_law_draw
set_option maxHeartbeats 4000000 in
theorem pr_law_draw (Z : Zt P K mg) : Pr P w K mg base 1 "_law_draw" "_law_draw" s_law_draw ["_law_pen_here", "_law_many"] m_law_draw :=
  pr_mk sc_law_draw (by decide) fun f cdv A outer s H E n hgd hr tk ow => by
    have nd := sc_law_draw.nd
    have hu := roomU hr
    exact (bcons (sif (tcmp k_gt (xhget hu (xv 0) xstr) xint) (bcons (sset 2 nd (xmod (xtoint Z.b_int (xhget hu (xv 0) xstr)) (xv 1)))
    (bcons (shput hu (xv 0) xstr (xfdiv (xhget hu (xv 0) xstr) (xv 1)))
    (bone (sret (xv 2))))) bnil)
    (bcons (spar2 3 4 rfl nd (xhget hu (xv 0) xstr) xint)
    (bcons (shput hu (xv 0) xstr (xadd (xv 3) xint))
    (bcons (sif (tcmp (k_ne hu) (xhget hu (xv 0) xstr) (xo (olst anil))) (bone (sset 4 nd (xix (xhget hu (xv 0) xstr) (xmod (xtoint Z.b_int (xv 3)) (xlen Z.b_len (xhget hu (xv 0) xstr)))))) bnil)
    (bcons (sif (PW.pt (wand (tcmp k_lt (xv 3) (xlen Z.b_len (xhget hu (xv 0) xstr))) (pw_and1 (tcmp k_ge (xabs Z.b_abs (xv 4)) (xpow xint xint))))) (bcons (shput hu (xv 0) xstr (xfdiv (xsub (xabs Z.b_abs (xv 4)) (xpow xint xint)) (xv 1)))
    (bone (sret (xmod (xsub (xabs Z.b_abs (xv 4)) (xpow xint xint)) (xv 1))))) bnil)
    (bcons (sset 5 nd (xmulV (xadd (xadd (xadd (xv 4) (xmulV (xmulV xint (xv 3)) (xv 3))) (xmulV xint (xv 3))) xint) xint))
    (bcons (sset 5 nd (xmod (xtoint Z.b_int (xadd (xv 5) (xmulV xint (xadd (xv 3) xint)))) xint))
    (bcons (sset 5 nd (xmod (xtoint Z.b_int (xmulV (xv 5) (xadd (xv 5) xint))) xint))
    (bone (sret (xmod (xtoint Z.b_int (xfdiv (xv 5) xint)) (xv 1))))))))))))
/-! ### _law_pick: 0 _law_pen_here, 1 _law_some -/
theorem sc_law_pick : FnScope ["_law_pen_here", "_law_some"] ["_law_pen_here", "_law_some"] (defScope s_law_pick) := ⟨rfl, rfl, rfl, by decide +kernel, rfl, by decide +kernel, by decide +kernel⟩
def b_law_pick (n : Nat) : M Fl :=
  (retM (bin (var 1) (callM m_law_draw n (argC (var 0) (argC (bnd (var 1) fLen) argN))) opIx))
def m_law_pick : Fn := fnM 2 2 b_law_pick
set_option maxHeartbeats 4000000 in
theorem pr_law_pick (Z : Zt P K mg) : Pr P w K mg base 2 "_law_pick" "_law_pick" s_law_pick ["_law_pen_here", "_law_some"] m_law_pick :=
  pr_mk sc_law_pick (by decide) fun f cdv A outer s H E n hgd hr tk ow => by
    have nd := sc_law_pick.nd
    have hu := roomU hr
    have D_law_draw := df_row (pr_law_draw (P := P) (w := w) (base := base) Z) Z.fn_law_draw rfl
    exact (bone (sret (xix (xv 1) (xdef n D_law_draw hgd hr tk (by decide) (acons (xv 0) (acons (xlen Z.b_len (xv 1)) anil))))))
/-! ### _law_names: 0 _law_pen_here, 1 _law_many, 2 _law_letters, 3 _law_found, 4 _law_base, 5 _law_at, 6 _law_first, 7 _law_by, 8 _law_k, 9 _law_tail -/
theorem sc_law_names : FnScope ["_law_pen_here", "_law_many", "_law_letters", "_law_found", "_law_base", "_law_at", "_law_first", "_law_by", "_law_k", "_law_tail"] ["_law_pen_here", "_law_many"] (defScope s_law_names) := ⟨rfl, rfl, rfl, by decide +kernel, rfl, by decide +kernel, by decide +kernel⟩
def b_law_names (n : Nat) : M Fl :=
  (seqM (par2VO 2 3 (ret (.str "abcdefghijklmnopqrstuvwxyz")) (fits argN))
    (seqM (asgM 4 (joinM (ret (.str "")) (lstM (lcM (rngM (bin (ret (.int 1)) (callM m_law_draw n (argC (var 0) (argC (ret (.int 8)) argN))) opAdd)) 8 [8] (ret true) (callM m_law_pick n (argC (var 0) (argC (var 2) argN)))))))
    (seqM (par3 5 6 7 (callM m_law_draw n (argC (var 0) (argC (bnd (var 4) fLen) argN))) (callM m_law_draw n (argC (var 0) (argC (ret (.int 26)) argN))) (callM m_law_pick n (argC (var 0) (argC (lstM (fits (argC (ret (.int 1)) (argC (ret (.int 3)) (argC (ret (.int 5)) (argC (ret (.int 7)) (argC (ret (.int 9)) (argC (ret (.int 11)) (argC (ret (.int 15)) (argC (ret (.int 17)) argN)))))))))) argN))))
    (seqM (loopM (rngM (var 1)) 8 (seqM (asgM 9 (iteT (asB (bin (callM m_law_draw n (argC (var 0) (argC (ret (.int 3)) argN))) (ret (.int 0)) opGt)) (slM (var 4) (parS (bin (var 5) (ret (.int 1)) opAdd)) parN) (ret (.str ""))))
    (dropM (appM 3 (bin (bin (slM (var 4) parN (parS (var 5))) (bin (var 2) (bin (bnd (bin (var 6) (bin (var 7) (var 8) opMul) opAdd) fInt) (ret (.int 26)) opMod) opIx) opAdd) (var 9) opAdd)))))
    (retM (var 3))))))
def m_law_names : Fn := fnM 2 10 b_law_names
set_option maxHeartbeats 4000000 in
theorem pr_law_names (Z : Zt P K mg) : Pr P w K mg base 3 "_law_names" "_law_names" s_law_names ["_law_pen_here", "_law_many"] m_law_names :=
  pr_mk sc_law_names (by decide) fun f cdv A outer s H E n hgd hr tk ow => by
    have nd := sc_law_names.nd
    have hu := roomU hr
    have D_law_draw := df_row (pr_law_draw (P := P) (w := w) (base := base) Z) Z.fn_law_draw rfl
    have D_law_pick := df_row (pr_law_pick (P := P) (w := w) (base := base) Z) Z.fn_law_pick rfl
    exact (bcons (spar2VOc 2 3 rfl nd xstr (olst anil) (hg := pgs_cons (gn 2 nd) (pgs_cons (gn 3 nd) pgs_nil)))
    (bcons (sset 4 nd (xjoin xstr (xo (olc 8 (own := [("_law_k", 8)]) rfl nd (irng Z.b_range (xadd xint (xdef n D_law_draw hgd hr tk (by decide) (acons (xv 0) (acons xint anil))))) src_rng (blkOk_by (by kernel_rfl)) (by decide) (fun _ _ _ _ _ => pg_name (i := 8) nd rfl (by first | exact Or.inl rfl | exact Or.inr rfl)) (fun _ _ _ _ _ => tsN) (fun _ _ _ _ _ => (xdef n D_law_pick hgd hr takesF (by decide) (acons (xv 0) (acons (xv 2) anil))))))))
    (bcons (spar3 5 6 7 rfl nd (xdef n D_law_draw hgd hr tk (by decide) (acons (xv 0) (acons (xlen Z.b_len (xv 4)) anil))) (xdef n D_law_draw hgd hr tk (by decide) (acons (xv 0) (acons xint anil))) (xdef n D_law_pick hgd hr tk (by decide) (acons (xv 0) (acons (xo (olst (acons xint (acons xint (acons xint (acons xint (acons xint (acons xint (acons xint (acons xint anil)))))))))) anil))))
    (bcons (sfor 8 rfl nd ow (irng Z.b_range (xv 1)) src_rng (bcons (sset 9 nd (xif (tcmp k_gt (xdef n D_law_draw hgd hr tk (by decide) (acons (xv 0) (acons xint anil))) xint) (xsl (xv 4) (qS (xadd (xv 5) xint)) qN) xstr))
    (bone (sexpr (xapp 3 (xadd (xadd (xsl (xv 4) qN (qS (xv 5))) (xix (xv 2) (xmod (xtoint Z.b_int (xadd (xv 6) (xmul (xv 7) (xv 8)))) xint))) (xv 9)))))))
    (bone (sret (xv 3)))))))
/-! ### _law_part: 0 _law_pen_here, 1 _law_label, 2 _law_source, 3 _law_goal, 4 _law_top, 5 _law_cost, 6 _law_floor -/
theorem sc_law_part : FnScope ["_law_pen_here", "_law_label", "_law_source", "_law_goal", "_law_top", "_law_cost", "_law_floor"] ["_law_pen_here", "_law_label", "_law_source", "_law_goal", "_law_top"] (defScope s_law_part) := ⟨rfl, rfl, rfl, by decide +kernel, rfl, by decide +kernel, by decide +kernel⟩
def b_law_part (n : Nat) : M Fl :=
  (seqM (par2 5 6 (callM m_law_pick n (argC (var 0) (argC (lstM (fits (argC (ret (.int 0)) (argC (ret (.int 0)) (argC (ret (.int 1)) (argC (callM m_law_draw n (argC (var 0) (argC (var 4) argN))) argN)))))) argN))) (callM m_law_pick n (argC (var 0) (argC (lstM (fits (argC (ret (.int 0)) (argC (ret (.int 0)) (argC (ret (.int 1)) (argC (callM m_law_draw n (argC (var 0) (argC (bin (ret (.int 3)) (var 4) opMul) argN))) argN)))))) argN))))
    (seqM (ifM (asB (bin (var 4) (ret (.int 9)) opEq)) (par2 5 6 (callM m_law_pick n (argC (var 0) (argC (lstM (fits (argC (var 5) (argC (callM m_law_draw n (argC (var 0) (argC (ret (.int 21)) argN))) argN)))) argN))) (callM m_law_pick n (argC (var 0) (argC (lstM (fits (argC (var 6) (argC (var 6) (argC (callM m_law_draw n (argC (var 0) (argC (ret (.int 1001)) argN))) argN))))) argN)))) skipM)
    (retM (tupM (argC (var 1) (argC (var 2) (argC (var 3) (argC (bin (ret (.int 1)) (callM m_law_draw n (argC (var 0) (argC (var 4) argN))) opAdd) (argC (bin (ret (.int 1)) (callM m_law_draw n (argC (var 0) (argC (var 4) argN))) opAdd) (argC (var 5) (argC (var 6) (argC (ret .non) argN))))))))))))
def m_law_part : Fn := fnM 5 7 b_law_part
set_option maxHeartbeats 4000000 in
theorem pr_law_part (Z : Zt P K mg) : Pr P w K mg base 3 "_law_part" "_law_part" s_law_part ["_law_pen_here", "_law_label", "_law_source", "_law_goal", "_law_top"] m_law_part :=
  pr_mk sc_law_part (by decide) fun f cdv A outer s H E n hgd hr tk ow => by
    have nd := sc_law_part.nd
    have hu := roomU hr
    have D_law_pick := df_row (pr_law_pick (P := P) (w := w) (base := base) Z) Z.fn_law_pick rfl
    have D_law_draw := df_row (pr_law_draw (P := P) (w := w) (base := base) Z) Z.fn_law_draw rfl
    exact (bcons (spar2 5 6 rfl nd (xdef n D_law_pick hgd hr tk (by decide) (acons (xv 0) (acons (xo (olst (acons xint (acons xint (acons xint (acons (xdef n D_law_draw hgd hr tk (by decide) (acons (xv 0) (acons (xv 4) anil))) anil)))))) anil))) (xdef n D_law_pick hgd hr tk (by decide) (acons (xv 0) (acons (xo (olst (acons xint (acons xint (acons xint (acons (xdef n D_law_draw hgd hr tk (by decide) (acons (xv 0) (acons (xmul xint (xv 4)) anil))) anil)))))) anil))))
    (bcons (sif (tcmp (k_eq hu) (xv 4) xint) (bone (spar2 5 6 rfl nd (xdef n D_law_pick hgd hr tk (by decide) (acons (xv 0) (acons (xo (olst (acons (xv 5) (acons (xdef n D_law_draw hgd hr tk (by decide) (acons (xv 0) (acons xint anil))) anil)))) anil))) (xdef n D_law_pick hgd hr tk (by decide) (acons (xv 0) (acons (xo (olst (acons (xv 6) (acons (xv 6) (acons (xdef n D_law_draw hgd hr tk (by decide) (acons (xv 0) (acons xint anil))) anil))))) anil))))) bnil)
    (bone (sret (xtup (acons (xv 1) (acons (xv 2) (acons (xv 3) (acons (xadd xint (xdef n D_law_draw hgd hr tk (by decide) (acons (xv 0) (acons (xv 4) anil)))) (acons (xadd xint (xdef n D_law_draw hgd hr tk (by decide) (acons (xv 0) (acons (xv 4) anil)))) (acons (xv 5) (acons (xv 6) (acons xnon anil)))))))))))))
/-! ### _law_bettered: 0 _law_pen_here, 1 _law_one_here, 2 _law_label, 3 _law_way, 4 _law_p, 5 _law_q, 6 _law_cost, 7 _law_floor -/
theorem sc_law_bettered : FnScope ["_law_pen_here", "_law_one_here", "_law_label", "_law_way", "_law_p", "_law_q", "_law_cost", "_law_floor"] ["_law_pen_here", "_law_one_here", "_law_label"] (defScope s_law_bettered) := ⟨rfl, rfl, rfl, by decide +kernel, rfl, by decide +kernel, by decide +kernel⟩
def b_law_bettered (n : Nat) : M Fl :=
  (seqM (asgM 3 (callM m_law_draw n (argC (var 0) (argC (ret (.int 4)) argN))))
    (seqM (unpM [4, 5, 6, 7] (tupM (argC (bin (var 1) (ret (.int 3)) opIx) (argC (bin (var 1) (ret (.int 4)) opIx) (argC (bin (var 1) (ret (.int 5)) opIx) (argC (bin (var 1) (ret (.int 6)) opIx) argN))))))
    (seqM (ifM (asB (bin (var 3) (ret (.int 0)) opEq)) (asgM 6 (callM m_law_draw n (argC (var 0) (argC (bin (var 6) (ret (.int 1)) opAdd) argN)))) (ifM (asB (bin (var 3) (ret (.int 1)) opEq)) (asgM 7 (callM m_law_draw n (argC (var 0) (argC (bin (var 7) (ret (.int 1)) opAdd) argN)))) (ifM (asB (bin (var 3) (ret (.int 2)) opEq)) (asgM 4 (bin (var 4) (callM m_law_draw n (argC (var 0) (argC (bin (ret (.int 10)) (var 4) opSub) argN))) opAdd)) (asgM 5 (bin (ret (.int 1)) (callM m_law_draw n (argC (var 0) (argC (var 5) argN))) opAdd)))))
    (retM (tupM (argC (var 2) (argC (bin (var 1) (ret (.int 1)) opIx) (argC (bin (var 1) (ret (.int 2)) opIx) (argC (var 4) (argC (var 5) (argC (var 6) (argC (var 7) (argC (ret .non) argN)))))))))))))
def m_law_bettered : Fn := fnM 3 8 b_law_bettered
set_option maxHeartbeats 4000000 in
theorem pr_law_bettered (Z : Zt P K mg) : Pr P w K mg base 2 "_law_bettered" "_law_bettered" s_law_bettered ["_law_pen_here", "_law_one_here", "_law_label"] m_law_bettered :=
  pr_mk sc_law_bettered (by decide) fun f cdv A outer s H E n hgd hr tk ow => by
    have nd := sc_law_bettered.nd
    have hu := roomU hr
    have D_law_draw := df_row (pr_law_draw (P := P) (w := w) (base := base) Z) Z.fn_law_draw rfl
    exact (bcons (sset 3 nd (xdef n D_law_draw hgd hr tk (by decide) (acons (xv 0) (acons xint anil))))
    (bcons (sunp [4, 5, 6, 7] rfl (xtup (acons (xix (xv 1) xint) (acons (xix (xv 1) xint) (acons (xix (xv 1) xint) (acons (xix (xv 1) xint) anil))))) (pgs_cons (gn 4 nd) (pgs_cons (gn 5 nd) (pgs_cons (gn 6 nd) (pgs_cons (gn 7 nd) pgs_nil)))))
    (bcons (sif (tcmp (k_eq hu) (xv 3) xint) (bone (sset 6 nd (xdef n D_law_draw hgd hr tk (by decide) (acons (xv 0) (acons (xadd (xv 6) xint) anil))))) (bone (sif (tcmp (k_eq hu) (xv 3) xint) (bone (sset 7 nd (xdef n D_law_draw hgd hr tk (by decide) (acons (xv 0) (acons (xadd (xv 7) xint) anil))))) (bone (sif (tcmp (k_eq hu) (xv 3) xint) (bone (sset 4 nd (xadd (xv 4) (xdef n D_law_draw hgd hr tk (by decide) (acons (xv 0) (acons (xsub xint (xv 4)) anil)))))) (bone (sset 5 nd (xadd xint (xdef n D_law_draw hgd hr tk (by decide) (acons (xv 0) (acons (xv 5) anil)))))))))))
    (bone (sret (xtup (acons (xv 2) (acons (xix (xv 1) xint) (acons (xix (xv 1) xint) (acons (xv 4) (acons (xv 5) (acons (xv 6) (acons (xv 7) (acons xnon anil))))))))))))))
/-! ### is_name: 0 value, 1 letter -/
theorem sc_is_name : FnScope ["value", "letter"] ["value"] (defScope s_is_name) := ⟨rfl, rfl, rfl, by decide +kernel, rfl, by decide +kernel, by decide +kernel⟩
def b_is_name (n : Nat) : M Fl :=
  (retM (andV (bnd (var 0) (fIsi "str")) (andV (chainM opLt opLe (ret (.int 0)) (bnd (var 0) fLen) (ret (.int 8))) (bnd (lstM (lcM (itemsM (var 0)) 1 [1] (ret true) (bin (var 1) (ret (.str "abcdefghijklmnopqrstuvwxyz")) opIn))) fAll))))
def m_is_name : Fn := fnM 1 2 b_is_name
set_option maxHeartbeats 4000000 in
theorem pr_is_name (Z : Zt P K mg) : Pr P w K mg base 1 "is_name" "is_name" s_is_name ["value"] m_is_name :=
  pr_mk sc_is_name (by decide) fun f cdv A outer s H E n hgd hr tk ow => by
    have nd := sc_is_name.nd
    have hu := roomU hr
    obtain ⟨_, h_ALPHABET⟩ := Z.gs_ALPHABET
    obtain ⟨_, h_LETTERS⟩ := Z.gi_LETTERS
    exact (bone (sret (xand (xisi Z.b_isinstance Z.b_str rfl (xv 0)) (xand (xchain k_lt k_le xint (xlen Z.b_len (xv 0)) (xgI h_LETTERS)) (pe_one (xall rfl Z.b_all (xo (olc 1 (own := [("letter", 1)]) rfl nd (iu (xv 0)) src_u (blkOk_by (by kernel_rfl)) (by decide) (fun _ _ _ _ _ => pg_name (i := 1) nd rfl (by first | exact Or.inl rfl | exact Or.inr rfl)) (fun _ _ _ _ _ => tsN) (fun _ _ _ _ _ => (xcmp (k_in hu) (xv 1) (xgS h_ALPHABET)))))))))))
/-! ### need_name: 0 value -/
theorem sc_need_name : FnScope ["value"] ["value"] (defScope s_need_name) := ⟨rfl, rfl, rfl, by decide +kernel, rfl, by decide +kernel, by decide +kernel⟩
def b_need_name (n : Nat) : M Fl :=
  (ifM (notT (asB (callM m_is_name n (argC (var 0) argN)))) stuck skipM)
def m_need_name : Fn := fnM 1 1 b_need_name
set_option maxHeartbeats 4000000 in
theorem pr_need_name (Z : Zt P K mg) : Pr P w K mg base 2 "need_name" "need_name" s_need_name ["value"] m_need_name :=
  pr_mk sc_need_name (by decide) fun f cdv A outer s H E n hgd hr tk ow => by
    have nd := sc_need_name.nd
    have hu := roomU hr
    have D_is_name := df_row (pr_is_name (P := P) (w := w) (base := base) Z) Z.fn_is_name rfl
    exact (bone (sif (tnot (tval (xdef n D_is_name hgd hr tk (by decide) (acons (xv 0) anil)))) (bone sstuck) bnil))
/-! ### Office.source: 0 self -/
theorem sc_Office_source : FnScope ["self"] ["self"] (defScope s_Office_source) := ⟨rfl, rfl, rfl, by decide +kernel, rfl, by decide +kernel, by decide +kernel⟩
def b_Office_source (n : Nat) : M Fl :=
  (retM (bin (bnd (var 0) (fldM ["Office", "CappedOffice"] "own_ends")) (ret (.int 0)) opIx))
def m_Office_source : Fn := fnM 1 1 b_Office_source
set_option maxHeartbeats 4000000 in
theorem pr_Office_source (Z : Zt P K mg) : Pr P w K mg base 1 "source" "Office.source" s_Office_source ["self"] m_Office_source :=
  pr_mk sc_Office_source (by decide) fun f cdv A outer s H E n hgd hr tk ow => by
    have nd := sc_Office_source.nd
    have hu := roomU hr
    exact (bone (sret (xix (xfld Z.fo_own_ends (xv 0)) xint)))
def tp_source : List (Str × Fn) := [("Office", m_Office_source), ("CappedOffice", m_Office_source)]
theorem Ttp_source (Z : Zt P K mg) : PropTab P w K mg base 1 "source" tp_source := (prpC (pr_Office_source Z) Z.pp_Office_source (by decide) rfl (prpC (pr_Office_source Z) Z.pp_CappedOffice_source (by decide) rfl prp0))
/-! ### Office.goal: 0 self -/
theorem sc_Office_goal : FnScope ["self"] ["self"] (defScope s_Office_goal) := ⟨rfl, rfl, rfl, by decide +kernel, rfl, by decide +kernel, by decide +kernel⟩
def b_Office_goal (n : Nat) : M Fl :=
  (retM (bin (bnd (var 0) (fldM ["Office", "CappedOffice"] "own_ends")) (ret (.int 1)) opIx))
def m_Office_goal : Fn := fnM 1 1 b_Office_goal
set_option maxHeartbeats 4000000 in
theorem pr_Office_goal (Z : Zt P K mg) : Pr P w K mg base 1 "goal" "Office.goal" s_Office_goal ["self"] m_Office_goal :=
  pr_mk sc_Office_goal (by decide) fun f cdv A outer s H E n hgd hr tk ow => by
    have nd := sc_Office_goal.nd
    have hu := roomU hr
    exact (bone (sret (xix (xfld Z.fo_own_ends (xv 0)) xint)))
def tp_goal : List (Str × Fn) := [("Office", m_Office_goal), ("CappedOffice", m_Office_goal)]
theorem Ttp_goal (Z : Zt P K mg) : PropTab P w K mg base 1 "goal" tp_goal := (prpC (pr_Office_goal Z) Z.pp_Office_goal (by decide) rfl (prpC (pr_Office_goal Z) Z.pp_CappedOffice_goal (by decide) rfl prp0))
/-! ### Route.__init__: 0 self, 1 start, 2 offices, 3 office, 4 here, 5 index -/
theorem sc_Route_init : FnScope ["self", "start", "offices", "office", "here", "index"] ((["self", "start"] : List Str) ++ (["offices"] : List Str)) (defScope s_Route_init) := ⟨rfl, rfl, rfl, by decide +kernel, rfl, by decide +kernel, by decide +kernel⟩
def b_Route_init (n : Nat) : M Fl :=
  (seqM (dropM (callM m_need_name n (argC (var 1) argN)))
    (seqM (loopM (itemsM (var 2)) 3 (ifM (notT (asB (bnd (var 3) (isoM [("Office", true), ("CappedOffice", true), ("Route", false)])))) stuck skipM))
    (seqM (asgM 4 (var 1))
    (seqM (loopU (enumM (var 2)) [5, 3] (seqM (ifM (asB (bin (bnd (var 3) (propM tp_source n)) (var 4) opNe)) stuck skipM)
    (asgM 4 (bnd (var 3) (propM tp_goal n)))))
    (seqM (ifM (asB (bin (bnd (var 2) fLen) (bnd (var 0) (conM ["Route"] "LENGTH" 1000)) opGt)) stuck skipM)
    (seqM (fputM ["Route"] "own_start" (var 0) (var 1))
    (seqM (fputM ["Route"] "own_end" (var 0) (var 4))
    (fputM ["Route"] "own_offices" (var 0) (var 2)))))))))
def m_Route_init : Fn := fnM 3 6 b_Route_init
set_option maxHeartbeats 4000000 in
theorem pr_Route_init (Z : Zt P K mg) : PrV P w K mg base 3 "__init__" "Route.__init__" s_Route_init ["self", "start"] "offices" m_Route_init :=
  prV_mk (k := 2) (N := ["self", "start", "offices", "office", "here", "index"]) (ps := ["self", "start"]) (pv := "offices") (st := s_Route_init) (body := b_Route_init) sc_Route_init (by decide) fun f cdv A outer s H E n hgd hr tk ow => by
    have nd := sc_Route_init.nd
    have hu := roomU hr
    have D_need_name := df_row (pr_need_name (P := P) (w := w) (base := base) Z) Z.fn_need_name rfl
    obtain ⟨_, im_Office, it_Office⟩ := Z.is_Office
    have Htp_source := Ttp_source (P := P) (w := w) (base := base) Z
    have Htp_goal := Ttp_goal (P := P) (w := w) (base := base) Z
    exact (bcons (sexpr (xdef n D_need_name hgd hr tk (by decide) (acons (xv 1) anil)))
    (bcons (sfor 3 rfl nd ow (iu (xv 2)) src_u (bone (sif (tnot (tval (xiso it_Office im_Office Z.b_isinstance (xv 3)))) (bone sstuck) bnil)))
    (bcons (sset 4 nd (xv 1))
    (bcons (sforU [5, 3] rfl ow (ienum Z.b_enumerate (xv 2)) src_enum (pgs_cons (gn 5 nd) (pgs_cons (gn 3 nd) pgs_nil)) (bcons (sif (tcmp (k_ne hu) (xprop n Htp_source hgd hr (by decide) (xv 3)) (xv 4)) (bone sstuck) bnil)
    (bone (sset 4 nd (xprop n Htp_goal hgd hr (by decide) (xv 3))))))
    (bcons (sif (tcmp k_gt (xlen Z.b_len (xv 2)) (xcon Z.co_LENGTH (xv 0))) (bone sstuck) bnil)
    (bcons (sfput Z.fo_own_start (xv 0) (xv 1))
    (bcons (sfput Z.fo_own_end (xv 0) (xv 4))
    (bone (sfput Z.fo_own_offices (xv 0) (xv 2))))))))))
/-! ### Route.__add__: 0 self, 1 other, 2 start, 3 offices -/
theorem sc_Route_add : FnScope ["self", "other", "start", "offices"] ["self", "other"] (defScope s_Route_add) := ⟨rfl, rfl, rfl, by decide +kernel, rfl, by decide +kernel, by decide +kernel⟩
def b_Route_add (n : Nat) : M Fl :=
  (seqM (asgM 2 (iteT (asB (bnd (var 1) (isoM [("Office", true), ("CappedOffice", true), ("Route", false)]))) (bnd (var 1) (propM tp_source n)) (bnd (var 1) (fldM ["Route"] "own_start"))))
    (seqM (asgM 3 (iteT (asB (bnd (var 1) (isoM [("Office", true), ("CappedOffice", true), ("Route", false)]))) (tupM (argC (var 1) argN)) (bnd (var 1) (fldM ["Route"] "own_offices"))))
    (seqM (ifM (asB (bin (var 2) (bnd (var 0) (fldM ["Route"] "own_end")) opNe)) stuck skipM)
    (retM (makeM "Route" m_Route_init n (starA 1 (argC (bnd (var 0) (fldM ["Route"] "own_start")) (argS (bnd (var 0) (fldM ["Route"] "own_offices")) (argS (var 3) argN)))))))))
def m_Route_add : Fn := fnM 2 4 b_Route_add
set_option maxHeartbeats 4000000 in
theorem pr_Route_add (Z : Zt P K mg) : Pr P w K mg base 5 "__add__" "Route.__add__" s_Route_add ["self", "other"] m_Route_add :=
  pr_mk sc_Route_add (by decide) fun f cdv A outer s H E n hgd hr tk ow => by
    have nd := sc_Route_add.nd
    have hu := roomU hr
    obtain ⟨_, im_Office, it_Office⟩ := Z.is_Office
    have Htp_source := Ttp_source (P := P) (w := w) (base := base) Z
    have MV_Route := mkV_row (i := 1) (pr_Route_init (P := P) (w := w) (base := base) Z) Z.mv_Route rfl rfl
    exact (bcons (sset 2 nd (xif (tval (xiso it_Office im_Office Z.b_isinstance (xv 1))) (xprop n Htp_source hgd hr (by decide) (xv 1)) (xfld Z.fo_own_start (xv 1))))
    (bcons (sset 3 nd (xif (tval (xiso it_Office im_Office Z.b_isinstance (xv 1))) (xtup (acons (xv 1) anil)) (xfld Z.fo_own_offices (xv 1))))
    (bcons (sif (tcmp (k_ne hu) (xv 2) (xfld Z.fo_own_end (xv 0))) (bone sstuck) bnil)
    (bone (sret (xmakeV n MV_Route hgd hr tk (by decide) (acons (xfld Z.fo_own_start (xv 0)) (acS (xfld Z.fo_own_offices (xv 0)) (acS (xv 3) anil)))))))))
def tb_add : List (Str × Fn) := [("Route", m_Route_add)]
theorem Ttb_add (Z : Zt P K mg) : BopTab P w K mg base 5 "add" tb_add ["Office", "CappedOffice"] [] := bopT (boC (pr_Route_add Z) Z.bo_Route_add (by decide) rfl rfl bo0) (othC Z.ot_Route_Office_add (othC Z.ot_Route_CappedOffice_add oth0)) Z.bb_Route_add
/-! ### is_integer: 0 value, 1 least, 2 most -/
theorem sc_is_integer : FnScope ["value", "least", "most"] ["value", "least", "most"] (defScope s_is_integer) := ⟨rfl, rfl, rfl, by decide +kernel, rfl, by decide +kernel, by decide +kernel⟩
def b_is_integer (n : Nat) : M Fl :=
  (retM (andV (bnd (var 0) (fIsi "int")) (andV (notV (bnd (var 0) (fIsi "bool"))) (chainM opLe opLe (var 1) (var 0) (var 2)))))
def m_is_integer : Fn := fnM 3 3 b_is_integer
set_option maxHeartbeats 4000000 in
theorem pr_is_integer (Z : Zt P K mg) : Pr P w K mg base 1 "is_integer" "is_integer" s_is_integer ["value", "least", "most"] m_is_integer :=
  pr_mk sc_is_integer (by decide) fun f cdv A outer s H E n hgd hr tk ow => by
    have nd := sc_is_integer.nd
    have hu := roomU hr
    exact (bone (sret (xand (xisi Z.b_isinstance Z.b_int rfl (xv 0)) (xand (xnot (xisi Z.b_isinstance Z.b_bool rfl (xv 0))) (pe_one (xchain k_le k_le (xv 1) (xv 0) (xv 2)))))))
/-! ### is_rate: 0 value, 1 part -/
theorem sc_is_rate : FnScope ["value", "part"] ["value"] (defScope s_is_rate) := ⟨rfl, rfl, rfl, by decide +kernel, rfl, by decide +kernel, by decide +kernel⟩
def b_is_rate (n : Nat) : M Fl :=
  (seqM (ifM (orT (notT (asB (bnd (var 0) (fIsi "tuple")))) (asB (bin (bnd (var 0) fLen) (ret (.int 2)) opNe))) (retM (ret (.bl false))) skipM)
    (retM (bnd (lstM (lcM (itemsM (var 0)) 1 [1] (ret true) (callM m_is_integer n (appA 1 (["least", "most"] : List Str).length (argC (var 1) argN) (argC (ret (.int 1)) (argC (ret (.int 9)) argN)))))) fAll)))
def m_is_rate : Fn := fnM 1 2 b_is_rate
set_option maxHeartbeats 4000000 in
theorem pr_is_rate (Z : Zt P K mg) : Pr P w K mg base 2 "is_rate" "is_rate" s_is_rate ["value"] m_is_rate :=
  pr_mk sc_is_rate (by decide) fun f cdv A outer s H E n hgd hr tk ow => by
    have nd := sc_is_rate.nd
    have hu := roomU hr
    have DK_is_integer_1_least_most := dfk_row (pr_is_integer (P := P) (w := w) (base := base) Z) Z.fk_is_integer_1_least_most rfl
    obtain ⟨_, _, _, cm_Office_RATE, cr_Office_RATE, cv_Office_RATE⟩ := Z.ca_Office_RATE
    exact (bcons (sif (PW.pt (wor (tnot (tval (xisi Z.b_isinstance Z.b_tuple rfl (xv 0)))) (pw_or1 (tcmp (k_ne hu) (xlen Z.b_len (xv 0)) xint)))) (bone (sret xbl)) bnil)
    (bone (sret (xall rfl Z.b_all (xo (olc 1 (own := [("part", 1)]) rfl nd (iu (xv 0)) src_u (blkOk_by (by kernel_rfl)) (by decide) (fun _ _ _ _ _ => pg_name (i := 1) nd rfl (by first | exact Or.inl rfl | exact Or.inr rfl)) (fun _ _ _ _ _ => tsN) (fun _ _ _ _ _ => (xcallK n DK_is_integer_1_least_most hgd hr takesF (by decide) (acons (xv 1) anil) (akC xint (akC (xcattr cm_Office_RATE cr_Office_RATE cv_Office_RATE) akN))))))))))
/-! ### need_integer: 0 value, 1 least, 2 most -/
theorem sc_need_integer : FnScope ["value", "least", "most"] ["value", "least", "most"] (defScope s_need_integer) := ⟨rfl, rfl, rfl, by decide +kernel, rfl, by decide +kernel, by decide +kernel⟩
def b_need_integer (n : Nat) : M Fl :=
  (ifM (notT (asB (callM m_is_integer n (appA 1 (["least", "most"] : List Str).length (argC (var 0) argN) (argC (var 1) (argC (var 2) argN)))))) stuck skipM)
def m_need_integer : Fn := fnM 3 3 b_need_integer
set_option maxHeartbeats 4000000 in
theorem pr_need_integer (Z : Zt P K mg) : Pr P w K mg base 2 "need_integer" "need_integer" s_need_integer ["value", "least", "most"] m_need_integer :=
  pr_mk sc_need_integer (by decide) fun f cdv A outer s H E n hgd hr tk ow => by
    have nd := sc_need_integer.nd
    have hu := roomU hr
    have DK_is_integer_1_least_most := dfk_row (pr_is_integer (P := P) (w := w) (base := base) Z) Z.fk_is_integer_1_least_most rfl
    exact (bone (sif (tnot (tval (xcallK n DK_is_integer_1_least_most hgd hr tk (by decide) (acons (xv 0) anil) (akC (xv 1) (akC (xv 2) akN))))) (bone sstuck) bnil))
/-! ### Office.__init__: 0 self, 1 name, 2 source, 3 goal, 4 rate, 5 fee, 6 least, 7 value -/
theorem sc_Office_init : FnScope ["self", "name", "source", "goal", "rate", "fee", "least", "value"] ["self", "name", "source", "goal", "rate", "fee", "least"] (defScope s_Office_init) := ⟨rfl, rfl, rfl, by decide +kernel, rfl, by decide +kernel, by decide +kernel⟩
def b_Office_init (n : Nat) : M Fl :=
  (seqM (loopM (itemsM (tupM (argC (var 1) (argC (var 2) (argC (var 3) argN))))) 7 (dropM (callM m_need_name n (argC (var 7) argN))))
    (seqM (ifM (notT (asB (callM m_is_rate n (argC (var 4) argN)))) stuck skipM)
    (seqM (dropM (callM m_need_integer n (appA 1 (["least", "most"] : List Str).length (argC (var 5) argN) (argC (ret (.int 0)) (argC (bnd (var 0) (conM ["Office", "CappedOffice"] "FEE" 20)) argN)))))
    (seqM (dropM (callM m_need_integer n (appA 1 (["least", "most"] : List Str).length (argC (var 6) argN) (argC (ret (.int 0)) (argC (bnd (var 0) (conM ["Office", "CappedOffice"] "LEAST" 1000)) argN)))))
    (seqM (fputM ["Office", "CappedOffice"] "name" (var 0) (var 1))
    (seqM (fputM ["Office", "CappedOffice"] "own_ends" (var 0) (tupM (argC (var 2) (argC (var 3) argN))))
    (seqM (fputM ["Office", "CappedOffice"] "own_rate" (var 0) (var 4))
    (seqM (fputM ["Office", "CappedOffice"] "own_fee" (var 0) (var 5))
    (fputM ["Office", "CappedOffice"] "own_least" (var 0) (var 6))))))))))
def m_Office_init : Fn := fnM 7 8 b_Office_init
set_option maxHeartbeats 4000000 in
theorem pr_Office_init (Z : Zt P K mg) : Pr P w K mg base 3 "__init__" "Office.__init__" s_Office_init ["self", "name", "source", "goal", "rate", "fee", "least"] m_Office_init :=
  pr_mk sc_Office_init (by decide) fun f cdv A outer s H E n hgd hr tk ow => by
    have nd := sc_Office_init.nd
    have hu := roomU hr
    have D_need_name := df_row (pr_need_name (P := P) (w := w) (base := base) Z) Z.fn_need_name rfl
    have D_is_rate := df_row (pr_is_rate (P := P) (w := w) (base := base) Z) Z.fn_is_rate rfl
    have DK_need_integer_1_least_most := dfk_row (pr_need_integer (P := P) (w := w) (base := base) Z) Z.fk_need_integer_1_least_most rfl
    exact (bcons (sfor 7 rfl nd ow (iu (xtup (acons (xv 1) (acons (xv 2) (acons (xv 3) anil))))) src_u (bone (sexpr (xdef n D_need_name hgd hr tk (by decide) (acons (xv 7) anil)))))
    (bcons (sif (tnot (tval (xdef n D_is_rate hgd hr tk (by decide) (acons (xv 4) anil)))) (bone sstuck) bnil)
    (bcons (sexpr (xcallK n DK_need_integer_1_least_most hgd hr tk (by decide) (acons (xv 5) anil) (akC xint (akC (xcon Z.co_FEE (xv 0)) akN))))
    (bcons (sexpr (xcallK n DK_need_integer_1_least_most hgd hr tk (by decide) (acons (xv 6) anil) (akC xint (akC (xcon Z.co_LEAST (xv 0)) akN))))
    (bcons (sfput Z.fo_name (xv 0) (xv 1))
    (bcons (sfput Z.fo_own_ends (xv 0) (xtup (acons (xv 2) (acons (xv 3) anil))))
    (bcons (sfput Z.fo_own_rate (xv 0) (xv 4))
    (bcons (sfput Z.fo_own_fee (xv 0) (xv 5))
    (bone (sfput Z.fo_own_least (xv 0) (xv 6)))))))))))
def ts_CappedOffice_init_5_fee_least : List (Str × Fn) := [("CappedOffice", m_Office_init)]
theorem Tts_CappedOffice_init_5_fee_least (Z : Zt P K mg) {D : Addr} (hD : ClsAt K "CappedOffice" D) : SupTab P w K mg base 3 D "__init__" 7 5 ["fee", "least"] ts_CappedOffice_init_5_fee_least := (supC hD (pr_Office_init Z) Z.su_CappedOffice_CappedOffice_init_5_fee_least (by decide) rfl sup0)
/-! ### CappedOffice.__init__: 0 self, 1 name, 2 source, 3 goal, 4 rate, 5 most, 6 fee, 7 least, 8 __class__ -/
theorem sc_CappedOffice_init : NScope ["self", "name", "source", "goal", "rate", "most", "fee", "least", "__class__"] ["self", "name", "source", "goal", "rate", "most", "fee", "least"] ["__class__"] (defScope s_CappedOffice_init) := nscope_by (by decide +kernel)
def b_CappedOffice_init (n : Nat) : M Fl :=
  (seqM (dropM (supM ts_CappedOffice_init_5_fee_least n (appA 4 (["fee", "least"] : List Str).length (argC (var 1) (argC (var 2) (argC (var 3) (argC (var 4) argN)))) (argC (var 6) (argC (var 7) argN)))))
    (seqM (dropM (callM m_need_integer n (appA 1 (["least", "most"] : List Str).length (argC (var 5) argN) (argC (var 7) (argC (bnd (var 0) (conM ["CappedOffice"] "MOST" 1000000)) argN)))))
    (fputM ["CappedOffice"] "own_most" (var 0) (var 5))))
def m_CappedOffice_init : Fn := fnM 8 9 b_CappedOffice_init
set_option maxHeartbeats 4000000 in
theorem pr_CappedOffice_init (Z : Zt P K mg) : PrS P w K mg base 4 "__init__" "CappedOffice.__init__" "CappedOffice" s_CappedOffice_init ["self", "name", "source", "goal", "rate", "most", "fee", "least"] m_CappedOffice_init :=
  prs_mk sc_CappedOffice_init (by decide) fun f cc cda D S1 hD A outer s H E n hgd hr tk ow => by
    have nd := sc_CappedOffice_init.nd
    have hu := roomU hr
    have SX := supX_of (P := P) (w := w) (base := base) (N := ["self", "name", "source", "goal", "rate", "most", "fee", "least", "__class__"]) (x := "__init__") (qual := "CappedOffice.__init__") (st := s_CappedOffice_init) (A := A) (outer := outer) (s := s) (H := H) (E := E) S1 rfl rfl rfl rfl
    have Hts_CappedOffice_init_5_fee_least := Tts_CappedOffice_init_5_fee_least (P := P) (w := w) (base := base) Z hD
    have DK_need_integer_1_least_most := dfk_row (pr_need_integer (P := P) (w := w) (base := base) Z) Z.fk_need_integer_1_least_most rfl
    exact (acons1 (aexpr (asup n Hts_CappedOffice_init_5_fee_least SX hgd hr tk (by decide) (acons (xv 1) (acons (xv 2) (acons (xv 3) (acons (xv 4) anil)))) (akC (xv 6) (akC (xv 7) akN))))
    (bcons (sexpr (xcallK n DK_need_integer_1_least_most hgd hr tk (by decide) (acons (xv 5) anil) (akC (xv 7) (akC (xcon Z.co_MOST (xv 0)) akN))))
    (bone (sfput Z.fo_own_most (xv 0) (xv 5)))))
/-! ### _law_one: 0 _law_one_here -/
theorem sc_law_one : FnScope ["_law_one_here"] ["_law_one_here"] (defScope s_law_one) := ⟨rfl, rfl, rfl, by decide +kernel, rfl, by decide +kernel, by decide +kernel⟩
def b_law_one (n : Nat) : M Fl :=
  (seqM (ifM (asB (isN false (bin (var 0) (ret (.int 7)) opIx))) (retM (makeM "Office" m_Office_init n (appA 4 (["fee", "least"] : List Str).length (argC (bin (var 0) (ret (.int 0)) opIx) (argC (bin (var 0) (ret (.int 1)) opIx) (argC (bin (var 0) (ret (.int 2)) opIx) (argC (tupM (argC (bin (var 0) (ret (.int 3)) opIx) (argC (bin (var 0) (ret (.int 4)) opIx) argN))) argN)))) (argC (bin (var 0) (ret (.int 5)) opIx) (argC (bin (var 0) (ret (.int 6)) opIx) argN))))) skipM)
    (retM (makeM "CappedOffice" m_CappedOffice_init n (appA 4 (["most", "fee", "least"] : List Str).length (argC (bin (var 0) (ret (.int 0)) opIx) (argC (bin (var 0) (ret (.int 1)) opIx) (argC (bin (var 0) (ret (.int 2)) opIx) (argC (tupM (argC (bin (var 0) (ret (.int 3)) opIx) (argC (bin (var 0) (ret (.int 4)) opIx) argN))) argN)))) (argC (bin (var 0) (ret (.int 7)) opIx) (argC (bin (var 0) (ret (.int 5)) opIx) (argC (bin (var 0) (ret (.int 6)) opIx) argN)))))))
def m_law_one : Fn := fnM 1 1 b_law_one
set_option maxHeartbeats 4000000 in
theorem pr_law_one (Z : Zt P K mg) : Pr P w K mg base 6 "_law_one" "_law_one" s_law_one ["_law_one_here"] m_law_one :=
  pr_mk sc_law_one (by decide) fun f cdv A outer s H E n hgd hr tk ow => by
    have nd := sc_law_one.nd
    have hu := roomU hr
    have M_Office_4_fee_least := mk_row (pr_Office_init (P := P) (w := w) (base := base) Z) Z.mk_Office_4_fee_least rfl
    have M_CappedOffice_4_most_fee_least := mkS_row (pr_CappedOffice_init (P := P) (w := w) (base := base) Z) Z.mk_CappedOffice_4_most_fee_least rfl
    exact (bcons (sif (tisN (xix (xv 0) xint)) (bone (sret (xmake n M_Office_4_fee_least hgd hr tk (by decide) (acons (xix (xv 0) xint) (acons (xix (xv 0) xint) (acons (xix (xv 0) xint) (acons (xtup (acons (xix (xv 0) xint) (acons (xix (xv 0) xint) anil))) anil)))) (akC (xix (xv 0) xint) (akC (xix (xv 0) xint) akN))))) bnil)
    (bone (sret (xmake n M_CappedOffice_4_most_fee_least hgd hr tk (by decide) (acons (xix (xv 0) xint) (acons (xix (xv 0) xint) (acons (xix (xv 0) xint) (acons (xtup (acons (xix (xv 0) xint) (acons (xix (xv 0) xint) anil))) anil)))) (akC (xix (xv 0) xint) (akC (xix (xv 0) xint) (akC (xix (xv 0) xint) akN)))))))
/-! ### _law_joined: 0 _law_start, 1 _law_offices, 2 _law_found, 3 _law_one_here -/
theorem sc_law_joined : FnScope ["_law_start", "_law_offices", "_law_found", "_law_one_here"] ["_law_start", "_law_offices"] (defScope s_law_joined) := ⟨rfl, rfl, rfl, by decide +kernel, rfl, by decide +kernel, by decide +kernel⟩
def b_law_joined (n : Nat) : M Fl :=
  (seqM (asgM 2 (makeM "Route" m_Route_init n (starA 1 (argC (var 0) argN))))
    (seqM (loopM (itemsM (var 1)) 3 (asgM 2 (bin (var 2) (callM m_law_one n (argC (var 3) argN)) (bopO tb_add ["Office", "CappedOffice"] [] n opAdd))))
    (retM (var 2))))
def m_law_joined : Fn := fnM 2 4 b_law_joined
set_option maxHeartbeats 4000000 in
theorem pr_law_joined (Z : Zt P K mg) : Pr P w K mg base 7 "_law_joined" "_law_joined" s_law_joined ["_law_start", "_law_offices"] m_law_joined :=
  pr_mk sc_law_joined (by decide) fun f cdv A outer s H E n hgd hr tk ow => by
    have nd := sc_law_joined.nd
    have hu := roomU hr
    have MV_Route := mkV_row (i := 1) (pr_Route_init (P := P) (w := w) (base := base) Z) Z.mv_Route rfl rfl
    have Htb_add := Ttb_add (P := P) (w := w) (base := base) Z
    have D_law_one := df_row (pr_law_one (P := P) (w := w) (base := base) Z) Z.fn_law_one rfl
    exact (bcons (sset 2 nd (xmakeV n MV_Route hgd hr tk (by decide) (acons (xv 0) anil)))
    (bcons (sfor 3 rfl nd ow (iu (xv 1)) src_u (bone (sset 2 nd (xaddO n Htb_add hgd hr tk (by decide) (xv 2) (xdef n D_law_one hgd hr tk (by decide) (acons (xv 3) anil))))))
    (bone (sret (xv 2)))))
/-! ### Route.end: 0 self -/
theorem sc_Route_end : FnScope ["self"] ["self"] (defScope s_Route_end) := ⟨rfl, rfl, rfl, by decide +kernel, rfl, by decide +kernel, by decide +kernel⟩
def b_Route_end (n : Nat) : M Fl :=
  (retM (bnd (var 0) (fldM ["Route"] "own_end")))
def m_Route_end : Fn := fnM 1 1 b_Route_end
set_option maxHeartbeats 4000000 in
theorem pr_Route_end (Z : Zt P K mg) : Pr P w K mg base 1 "end" "Route.end" s_Route_end ["self"] m_Route_end :=
  pr_mk sc_Route_end (by decide) fun f cdv A outer s H E n hgd hr tk ow => by
    have nd := sc_Route_end.nd
    have hu := roomU hr
    exact (bone (sret (xfld Z.fo_own_end (xv 0))))
def tp_end : List (Str × Fn) := [("Route", m_Route_end)]
theorem Ttp_end (Z : Zt P K mg) : PropTab P w K mg base 1 "end" tp_end := (prpC (pr_Route_end Z) Z.pp_Route_end (by decide) rfl prp0)
/-! ### Route.start: 0 self -/
theorem sc_Route_start : FnScope ["self"] ["self"] (defScope s_Route_start) := ⟨rfl, rfl, rfl, by decide +kernel, rfl, by decide +kernel, by decide +kernel⟩
def b_Route_start (n : Nat) : M Fl :=
  (retM (bnd (var 0) (fldM ["Route"] "own_start")))
def m_Route_start : Fn := fnM 1 1 b_Route_start
set_option maxHeartbeats 4000000 in
theorem pr_Route_start (Z : Zt P K mg) : Pr P w K mg base 1 "start" "Route.start" s_Route_start ["self"] m_Route_start :=
  pr_mk sc_Route_start (by decide) fun f cdv A outer s H E n hgd hr tk ow => by
    have nd := sc_Route_start.nd
    have hu := roomU hr
    exact (bone (sret (xfld Z.fo_own_start (xv 0))))
def tp_start : List (Str × Fn) := [("Route", m_Route_start)]
theorem Ttp_start (Z : Zt P K mg) : PropTab P w K mg base 1 "start" tp_start := (prpC (pr_Route_start Z) Z.pp_Route_start (by decide) rfl prp0)
/-! ### Route.offices: 0 self -/
theorem sc_Route_offices : FnScope ["self"] ["self"] (defScope s_Route_offices) := ⟨rfl, rfl, rfl, by decide +kernel, rfl, by decide +kernel, by decide +kernel⟩
def b_Route_offices (n : Nat) : M Fl :=
  (retM (bnd (var 0) (fldM ["Route"] "own_offices")))
def m_Route_offices : Fn := fnM 1 1 b_Route_offices
set_option maxHeartbeats 4000000 in
theorem pr_Route_offices (Z : Zt P K mg) : Pr P w K mg base 1 "offices" "Route.offices" s_Route_offices ["self"] m_Route_offices :=
  pr_mk sc_Route_offices (by decide) fun f cdv A outer s H E n hgd hr tk ow => by
    have nd := sc_Route_offices.nd
    have hu := roomU hr
    exact (bone (sret (xfld Z.fo_own_offices (xv 0))))
def tp_offices : List (Str × Fn) := [("Route", m_Route_offices)]
theorem Ttp_offices (Z : Zt P K mg) : PropTab P w K mg base 1 "offices" tp_offices := (prpC (pr_Route_offices Z) Z.pp_Route_offices (by decide) rfl prp0)
/-! ### Office.most: 0 self -/
theorem sc_Office_most : FnScope ["self"] ["self"] (defScope s_Office_most) := ⟨rfl, rfl, rfl, by decide +kernel, rfl, by decide +kernel, by decide +kernel⟩
def b_Office_most (n : Nat) : M Fl :=
  (retM (ret .non))
def m_Office_most : Fn := fnM 1 1 b_Office_most
set_option maxHeartbeats 4000000 in
theorem pr_Office_most (Z : Zt P K mg) : Pr P w K mg base 1 "most" "Office.most" s_Office_most ["self"] m_Office_most :=
  pr_mk sc_Office_most (by decide) fun f cdv A outer s H E n hgd hr tk ow => by
    have nd := sc_Office_most.nd
    have hu := roomU hr
    exact (bone (sret xnon))
/-! ### CappedOffice.most: 0 self -/
theorem sc_CappedOffice_most : FnScope ["self"] ["self"] (defScope s_CappedOffice_most) := ⟨rfl, rfl, rfl, by decide +kernel, rfl, by decide +kernel, by decide +kernel⟩
def b_CappedOffice_most (n : Nat) : M Fl :=
  (retM (bnd (var 0) (fldM ["CappedOffice"] "own_most")))
def m_CappedOffice_most : Fn := fnM 1 1 b_CappedOffice_most
set_option maxHeartbeats 4000000 in
theorem pr_CappedOffice_most (Z : Zt P K mg) : Pr P w K mg base 1 "most" "CappedOffice.most" s_CappedOffice_most ["self"] m_CappedOffice_most :=
  pr_mk sc_CappedOffice_most (by decide) fun f cdv A outer s H E n hgd hr tk ow => by
    have nd := sc_CappedOffice_most.nd
    have hu := roomU hr
    exact (bone (sret (xfld Z.fo_own_most (xv 0))))
def tp_most : List (Str × Fn) := [("Office", m_Office_most), ("CappedOffice", m_CappedOffice_most)]
theorem Ttp_most (Z : Zt P K mg) : PropTab P w K mg base 1 "most" tp_most := (prpC (pr_Office_most Z) Z.pp_Office_most (by decide) rfl (prpC (pr_CappedOffice_most Z) Z.pp_CappedOffice_most (by decide) rfl prp0))
/-! ### Route.__len__: 0 self -/
theorem sc_Route_len : FnScope ["self"] ["self"] (defScope s_Route_len) := ⟨rfl, rfl, rfl, by decide +kernel, rfl, by decide +kernel, by decide +kernel⟩
def b_Route_len (n : Nat) : M Fl :=
  (retM (bnd (bnd (var 0) (fldM ["Route"] "own_offices")) fLen))
def m_Route_len : Fn := fnM 1 1 b_Route_len
set_option maxHeartbeats 4000000 in
theorem pr_Route_len (Z : Zt P K mg) : Pr P w K mg base 1 "__len__" "Route.__len__" s_Route_len ["self"] m_Route_len :=
  pr_mk sc_Route_len (by decide) fun f cdv A outer s H E n hgd hr tk ow => by
    have nd := sc_Route_len.nd
    have hu := roomU hr
    exact (bone (sret (xlen Z.b_len (xfld Z.fo_own_offices (xv 0)))))
def tl_len : List (Str × Fn) := [("Route", m_Route_len)]
theorem Ttl_len (Z : Zt P K mg) : LenTab P w K mg base 1 tl_len := (lenC (pr_Route_len Z) Z.ln_Route (by decide) rfl rfl len0)
/-! ### need_alike: 0 one, 1 other, 2 route, 3 office -/
theorem sc_need_alike : FnScope ["one", "other", "route", "office"] ["one", "other"] (defScope s_need_alike) := ⟨rfl, rfl, rfl, by decide +kernel, rfl, by decide +kernel, by decide +kernel⟩
def b_need_alike (n : Nat) : M Fl :=
  (seqM (ifM (orT (asB (bin (bnd (var 0) (propM tp_start n)) (bnd (var 1) (propM tp_start n)) opNe)) (asB (bin (bnd (var 0) (propM tp_end n)) (bnd (var 1) (propM tp_end n)) opNe))) stuck skipM)
    (seqM (loopM (itemsM (tupM (argC (var 0) (argC (var 1) argN)))) 2 (loopM (itemsM (bnd (var 2) (propM tp_offices n))) 3 (ifM (asB (isN true (bnd (var 3) (propM tp_most n)))) stuck skipM)))
    (ifM (orT (asB (bin (bnd (var 0) (lenO tl_len n)) (ret (.int 2)) opGt)) (asB (bin (bnd (var 1) (lenO tl_len n)) (ret (.int 2)) opGt))) stuck skipM)))
def m_need_alike : Fn := fnM 2 4 b_need_alike
set_option maxHeartbeats 4000000 in
theorem pr_need_alike (Z : Zt P K mg) : Pr P w K mg base 3 "need_alike" "need_alike" s_need_alike ["one", "other"] m_need_alike :=
  pr_mk sc_need_alike (by decide) fun f cdv A outer s H E n hgd hr tk ow => by
    have nd := sc_need_alike.nd
    have hu := roomU hr
    have Htp_end := Ttp_end (P := P) (w := w) (base := base) Z
    have Htp_start := Ttp_start (P := P) (w := w) (base := base) Z
    have Htp_offices := Ttp_offices (P := P) (w := w) (base := base) Z
    have Htp_most := Ttp_most (P := P) (w := w) (base := base) Z
    have Htl_len := Ttl_len (P := P) (w := w) (base := base) Z
    obtain ⟨_, h_LONGEST_ROUTE⟩ := Z.gi_LONGEST_ROUTE
    exact (bcons (sif (PW.pt (wor (tcmp (k_ne hu) (xprop n Htp_start hgd hr (by decide) (xv 0)) (xprop n Htp_start hgd hr (by decide) (xv 1))) (pw_or1 (tcmp (k_ne hu) (xprop n Htp_end hgd hr (by decide) (xv 0)) (xprop n Htp_end hgd hr (by decide) (xv 1)))))) (bone sstuck) bnil)
    (bcons (sfor 2 rfl nd ow (iu (xtup (acons (xv 0) (acons (xv 1) anil)))) src_u (bone (sfor 3 rfl nd ow (iu (xprop n Htp_offices hgd hr (by decide) (xv 2))) src_u (bone (sif (tnotN (xprop n Htp_most hgd hr (by decide) (xv 3))) (bone sstuck) bnil)))))
    (bone (sif (PW.pt (wor (tcmp k_gt (xlenO n Htl_len hgd hr tk (by decide) Z.b_len (xv 0)) (xgI h_LONGEST_ROUTE)) (pw_or1 (tcmp k_gt (xlenO n Htl_len hgd hr tk (by decide) Z.b_len (xv 1)) (xgI h_LONGEST_ROUTE))))) (bone sstuck) bnil))))
/-! ### Office.rate: 0 self -/
theorem sc_Office_rate : FnScope ["self"] ["self"] (defScope s_Office_rate) := ⟨rfl, rfl, rfl, by decide +kernel, rfl, by decide +kernel, by decide +kernel⟩
def b_Office_rate (n : Nat) : M Fl :=
  (retM (bnd (var 0) (fldM ["Office", "CappedOffice"] "own_rate")))
def m_Office_rate : Fn := fnM 1 1 b_Office_rate
set_option maxHeartbeats 4000000 in
theorem pr_Office_rate (Z : Zt P K mg) : Pr P w K mg base 1 "rate" "Office.rate" s_Office_rate ["self"] m_Office_rate :=
  pr_mk sc_Office_rate (by decide) fun f cdv A outer s H E n hgd hr tk ow => by
    have nd := sc_Office_rate.nd
    have hu := roomU hr
    exact (bone (sret (xfld Z.fo_own_rate (xv 0))))
def tp_rate_Office_CappedOffice : List (Str × Fn) := [("Office", m_Office_rate), ("CappedOffice", m_Office_rate)]
theorem Ttp_rate_Office_CappedOffice (Z : Zt P K mg) : PropTab P w K mg base 1 "rate" tp_rate_Office_CappedOffice := (prpC (pr_Office_rate Z) Z.pp_Office_rate (by decide) rfl (prpC (pr_Office_rate Z) Z.pp_CappedOffice_rate (by decide) rfl prp0))
/-! ### reduced: 0 numerator, 1 denominator, 2 one, 3 other -/
theorem sc_reduced : FnScope ["numerator", "denominator", "one", "other"] ["numerator", "denominator"] (defScope s_reduced) := ⟨rfl, rfl, rfl, by decide +kernel, rfl, by decide +kernel, by decide +kernel⟩
def b_reduced (n : Nat) : M Fl :=
  (seqM (par2 2 3 (bnd (var 0) fAbs) (var 1))
    (seqM (whM (asB (bin (var 3) (ret (.int 0)) opGt)) (par2 2 3 (var 3) (bin (var 2) (var 3) opMod)) n)
    (retM (tupM (argC (bin (var 0) (var 2) opDiv) (argC (bin (var 1) (var 2) opDiv) argN))))))
def m_reduced : Fn := fnM 2 4 b_reduced
set_option maxHeartbeats 4000000 in
theorem pr_reduced (Z : Zt P K mg) : Pr P w K mg base 1 "reduced" "reduced" s_reduced ["numerator", "denominator"] m_reduced :=
  pr_mk sc_reduced (by decide) fun f cdv A outer s H E n hgd hr tk ow => by
    have nd := sc_reduced.nd
    have hu := roomU hr
    exact (bcons (spar2 2 3 rfl nd (xabs Z.b_abs (xv 0)) (xv 1))
    (bcons (swhile n ow (tcmp k_gt (xv 3) xint) (bone (spar2 2 3 rfl nd (xv 3) (xmod (xv 2) (xv 3)))))
    (bone (sret (xtup (acons (xfdiv (xv 0) (xv 2)) (acons (xfdiv (xv 1) (xv 2)) anil)))))))
/-! ### times: 0 one, 1 other -/
theorem sc_times : FnScope ["one", "other"] ["one", "other"] (defScope s_times) := ⟨rfl, rfl, rfl, by decide +kernel, rfl, by decide +kernel, by decide +kernel⟩
def b_times (n : Nat) : M Fl :=
  (retM (callM m_reduced n (argC (bin (bin (var 0) (ret (.int 0)) opIx) (bin (var 1) (ret (.int 0)) opIx) opMul) (argC (bin (bin (var 0) (ret (.int 1)) opIx) (bin (var 1) (ret (.int 1)) opIx) opMul) argN))))
def m_times : Fn := fnM 2 2 b_times
set_option maxHeartbeats 4000000 in
theorem pr_times (Z : Zt P K mg) : Pr P w K mg base 2 "times" "times" s_times ["one", "other"] m_times :=
  pr_mk sc_times (by decide) fun f cdv A outer s H E n hgd hr tk ow => by
    have nd := sc_times.nd
    have hu := roomU hr
    have D_reduced := df_row (pr_reduced (P := P) (w := w) (base := base) Z) Z.fn_reduced rfl
    exact (bone (sret (xdef n D_reduced hgd hr tk (by decide) (acons (xmul (xix (xv 0) xint) (xix (xv 1) xint)) (acons (xmul (xix (xv 0) xint) (xix (xv 1) xint)) anil)))))
/-! ### Route.rate: 0 self, 1 found, 2 office, 3 p, 4 q -/
theorem sc_Route_rate : FnScope ["self", "found", "office", "p", "q"] ["self"] (defScope s_Route_rate) := ⟨rfl, rfl, rfl, by decide +kernel, rfl, by decide +kernel, by decide +kernel⟩
def b_Route_rate (n : Nat) : M Fl :=
  (seqM (asgM 1 (tupM (argC (ret (.int 1)) (argC (ret (.int 1)) argN))))
    (seqM (loopM (itemsM (bnd (var 0) (fldM ["Route"] "own_offices"))) 2 (seqM (unpM [3, 4] (bnd (var 2) (propM tp_rate_Office_CappedOffice n)))
    (asgM 1 (callM m_times n (argC (var 1) (argC (callM m_reduced n (argC (var 3) (argC (var 4) argN))) argN))))))
    (retM (var 1))))
def m_Route_rate : Fn := fnM 1 5 b_Route_rate
set_option maxHeartbeats 4000000 in
theorem pr_Route_rate (Z : Zt P K mg) : Pr P w K mg base 3 "rate" "Route.rate" s_Route_rate ["self"] m_Route_rate :=
  pr_mk sc_Route_rate (by decide) fun f cdv A outer s H E n hgd hr tk ow => by
    have nd := sc_Route_rate.nd
    have hu := roomU hr
    have Htp_rate_Office_CappedOffice := Ttp_rate_Office_CappedOffice (P := P) (w := w) (base := base) Z
    have D_times := df_row (pr_times (P := P) (w := w) (base := base) Z) Z.fn_times rfl
    have D_reduced := df_row (pr_reduced (P := P) (w := w) (base := base) Z) Z.fn_reduced rfl
    exact (bcons (sset 1 nd (xtup (acons xint (acons xint anil))))
    (bcons (sfor 2 rfl nd ow (iu (xfld Z.fo_own_offices (xv 0))) src_u (bcons (sunp [3, 4] rfl (xprop n Htp_rate_Office_CappedOffice hgd hr (by decide) (xv 2)) (pgs_cons (gn 3 nd) (pgs_cons (gn 4 nd) pgs_nil)))
    (bone (sset 1 nd (xdef n D_times hgd hr tk (by decide) (acons (xv 1) (acons (xdef n D_reduced hgd hr tk (by decide) (acons (xv 3) (acons (xv 4) anil))) anil)))))))
    (bone (sret (xv 1)))))
def tp_rate : List (Str × Fn) := [("Office", m_Office_rate), ("CappedOffice", m_Office_rate), ("Route", m_Route_rate)]
theorem Ttp_rate (Z : Zt P K mg) : PropTab P w K mg base 3 "rate" tp_rate := (prpC (pr_Office_rate Z) Z.pp_Office_rate (by decide) rfl (prpC (pr_Office_rate Z) Z.pp_CappedOffice_rate (by decide) rfl (prpC (pr_Route_rate Z) Z.pp_Route_rate (by decide) rfl prp0)))
/-! ### Office.least: 0 self -/
theorem sc_Office_least : FnScope ["self"] ["self"] (defScope s_Office_least) := ⟨rfl, rfl, rfl, by decide +kernel, rfl, by decide +kernel, by decide +kernel⟩
def b_Office_least (n : Nat) : M Fl :=
  (retM (bnd (var 0) (fldM ["Office", "CappedOffice"] "own_least")))
def m_Office_least : Fn := fnM 1 1 b_Office_least
set_option maxHeartbeats 4000000 in
theorem pr_Office_least (Z : Zt P K mg) : Pr P w K mg base 1 "least" "Office.least" s_Office_least ["self"] m_Office_least :=
  pr_mk sc_Office_least (by decide) fun f cdv A outer s H E n hgd hr tk ow => by
    have nd := sc_Office_least.nd
    have hu := roomU hr
    exact (bone (sret (xfld Z.fo_own_least (xv 0))))
def tp_least : List (Str × Fn) := [("Office", m_Office_least), ("CappedOffice", m_Office_least)]
theorem Ttp_least (Z : Zt P K mg) : PropTab P w K mg base 1 "least" tp_least := (prpC (pr_Office_least Z) Z.pp_Office_least (by decide) rfl (prpC (pr_Office_least Z) Z.pp_CappedOffice_least (by decide) rfl prp0))
/-! ### Office.fee: 0 self -/
theorem sc_Office_fee : FnScope ["self"] ["self"] (defScope s_Office_fee) := ⟨rfl, rfl, rfl, by decide +kernel, rfl, by decide +kernel, by decide +kernel⟩
def b_Office_fee (n : Nat) : M Fl :=
  (retM (bnd (var 0) (fldM ["Office", "CappedOffice"] "own_fee")))
def m_Office_fee : Fn := fnM 1 1 b_Office_fee
set_option maxHeartbeats 4000000 in
theorem pr_Office_fee (Z : Zt P K mg) : Pr P w K mg base 1 "fee" "Office.fee" s_Office_fee ["self"] m_Office_fee :=
  pr_mk sc_Office_fee (by decide) fun f cdv A outer s H E n hgd hr tk ow => by
    have nd := sc_Office_fee.nd
    have hu := roomU hr
    exact (bone (sret (xfld Z.fo_own_fee (xv 0))))
def tp_fee : List (Str × Fn) := [("Office", m_Office_fee), ("CappedOffice", m_Office_fee)]
theorem Ttp_fee (Z : Zt P K mg) : PropTab P w K mg base 1 "fee" tp_fee := (prpC (pr_Office_fee Z) Z.pp_Office_fee (by decide) rfl (prpC (pr_Office_fee Z) Z.pp_CappedOffice_fee (by decide) rfl prp0))
/-! ### regular_from: 0 route, 1 found, 2 office, 3 p, 4 q -/
theorem sc_regular_from : FnScope ["route", "found", "office", "p", "q"] ["route"] (defScope s_regular_from) := ⟨rfl, rfl, rfl, by decide +kernel, rfl, by decide +kernel, by decide +kernel⟩
def b_regular_from (n : Nat) : M Fl :=
  (seqM (asgM 1 (ret (.int 0)))
    (seqM (loopM (itemsM (revU (bnd (var 0) (propM tp_offices n)))) 2 (seqM (unpM [3, 4] (bnd (var 2) (propM tp_rate n)))
    (asgM 1 (bin (bnd (var 2) (propM tp_least n)) (bin (bin (bin (bin (bin (var 1) (bnd (var 2) (propM tp_fee n)) opAdd) (var 4) opMul) (var 3) opAdd) (ret (.int 1)) opSub) (var 3) opDiv) opMax))))
    (retM (var 1))))
def m_regular_from : Fn := fnM 1 5 b_regular_from
set_option maxHeartbeats 4000000 in
theorem pr_regular_from (Z : Zt P K mg) : Pr P w K mg base 5 "regular_from" "regular_from" s_regular_from ["route"] m_regular_from :=
  pr_mk sc_regular_from (by decide) fun f cdv A outer s H E n hgd hr tk ow => by
    have nd := sc_regular_from.nd
    have hu := roomU hr
    have Htp_offices := Ttp_offices (P := P) (w := w) (base := base) Z
    have Htp_rate := Ttp_rate (P := P) (w := w) (base := base) Z
    have Htp_least := Ttp_least (P := P) (w := w) (base := base) Z
    have Htp_fee := Ttp_fee (P := P) (w := w) (base := base) Z
    exact (bcons (sset 1 nd xint)
    (bcons (sfor 2 rfl nd ow (iu (xrevU (xprop n Htp_offices hgd hr (by decide) (xv 0)))) src_u (bcons (sunp [3, 4] rfl (xprop n Htp_rate hgd hr (by decide) (xv 2)) (pgs_cons (gn 3 nd) (pgs_cons (gn 4 nd) pgs_nil)))
    (bone (sset 1 nd (xmax2 rfl Z.b_max (xprop n Htp_least hgd hr (by decide) (xv 2)) (xfdiv (xsub (xadd (xmul (xadd (xv 1) (xprop n Htp_fee hgd hr (by decide) (xv 2))) (xv 4)) (xv 3)) xint) (xv 3)))))))
    (bone (sret (xv 1)))))
/-! ### common_multiple: 0 one, 1 other, 2 low, 3 high -/
theorem sc_common_multiple : FnScope ["one", "other", "low", "high"] ["one", "other"] (defScope s_common_multiple) := ⟨rfl, rfl, rfl, by decide +kernel, rfl, by decide +kernel, by decide +kernel⟩
def b_common_multiple (n : Nat) : M Fl :=
  (seqM (par2 2 3 (var 0) (var 1))
    (seqM (whM (asB (bin (var 2) (ret (.int 0)) opGt)) (par2 2 3 (bin (var 3) (var 2) opMod) (var 2)) n)
    (retM (bin (bin (var 0) (var 1) opMul) (var 3) opDiv))))
def m_common_multiple : Fn := fnM 2 4 b_common_multiple
set_option maxHeartbeats 4000000 in
theorem pr_common_multiple (Z : Zt P K mg) : Pr P w K mg base 1 "common_multiple" "common_multiple" s_common_multiple ["one", "other"] m_common_multiple :=
  pr_mk sc_common_multiple (by decide) fun f cdv A outer s H E n hgd hr tk ow => by
    have nd := sc_common_multiple.nd
    have hu := roomU hr
    exact (bcons (spar2 2 3 rfl nd (xv 0) (xv 1))
    (bcons (swhile n ow (tcmp k_gt (xv 2) xint) (bone (spar2 2 3 rfl nd (xmod (xv 3) (xv 2)) (xv 2))))
    (bone (sret (xfdiv (xmul (xv 0) (xv 1)) (xv 3))))))
/-! ### product: 0 numbers, 1 found, 2 number -/
theorem sc_product : FnScope ["numbers", "found", "number"] ["numbers"] (defScope s_product) := ⟨rfl, rfl, rfl, by decide +kernel, rfl, by decide +kernel, by decide +kernel⟩
def b_product (n : Nat) : M Fl :=
  (seqM (asgM 1 (ret (.int 1)))
    (seqM (loopM (itemsM (var 0)) 2 (asgM 1 (bin (var 1) (var 2) opMulI)))
    (retM (var 1))))
def m_product : Fn := fnM 1 3 b_product
set_option maxHeartbeats 4000000 in
theorem pr_product (Z : Zt P K mg) : Pr P w K mg base 1 "product" "product" s_product ["numbers"] m_product :=
  pr_mk sc_product (by decide) fun f cdv A outer s H E n hgd hr tk ow => by
    have nd := sc_product.nd
    have hu := roomU hr
    exact (bcons (sset 1 nd xint)
    (bcons (sfor 2 rfl nd ow (iu (xv 0)) src_u (bone (saugMult 1 rfl nd (xv 2))))
    (bone (sret (xv 1)))))
/-! ### divisor: 0 route, 1 office -/
theorem sc_divisor : FnScope ["route", "office"] ["route"] (defScope s_divisor) := ⟨rfl, rfl, rfl, by decide +kernel, rfl, by decide +kernel, by decide +kernel⟩
def b_divisor (n : Nat) : M Fl :=
  (retM (callM m_product n (argC (lstM (lcM (itemsM (bnd (var 0) (propM tp_offices n))) 1 [1] (ret true) (bin (bnd (var 1) (propM tp_rate n)) (ret (.int 1)) opIx))) argN)))
def m_divisor : Fn := fnM 1 2 b_divisor
set_option maxHeartbeats 4000000 in
theorem pr_divisor (Z : Zt P K mg) : Pr P w K mg base 5 "divisor" "divisor" s_divisor ["route"] m_divisor :=
  pr_mk sc_divisor (by decide) fun f cdv A outer s H E n hgd hr tk ow => by
    have nd := sc_divisor.nd
    have hu := roomU hr
    have D_product := df_row (pr_product (P := P) (w := w) (base := base) Z) Z.fn_product rfl
    have Htp_offices := Ttp_offices (P := P) (w := w) (base := base) Z
    have Htp_rate := Ttp_rate (P := P) (w := w) (base := base) Z
    exact (bone (sret (xdef n D_product hgd hr tk (by decide) (acons (xo (olc 1 (own := [("office", 1)]) rfl nd (iu (xprop n Htp_offices hgd hr (by decide) (xv 0))) src_u (blkOk_by (by kernel_rfl)) (by decide) (fun _ _ _ _ _ => pg_name (i := 1) nd rfl (by first | exact Or.inl rfl | exact Or.inr rfl)) (fun _ _ _ _ _ => tsN) (fun _ _ _ _ _ => (xix (xprop n Htp_rate hgd hr (by decide) (xv 1)) xint)))) anil))))
/-! ### Office.result: 0 self, 1 coins, 2 p, 3 q -/
theorem sc_Office_result : FnScope ["self", "coins", "p", "q"] ["self", "coins"] (defScope s_Office_result) := ⟨rfl, rfl, rfl, by decide +kernel, rfl, by decide +kernel, by decide +kernel⟩
def b_Office_result (n : Nat) : M Fl :=
  (seqM (ifM (asB (bin (var 1) (bnd (var 0) (fldM ["Office", "CappedOffice"] "own_least")) opLt)) (retM (ret .non)) skipM)
    (seqM (unpM [2, 3] (bnd (var 0) (fldM ["Office", "CappedOffice"] "own_rate")))
    (retM (bin (ret (.int 0)) (bin (bin (bin (var 1) (var 2) opMul) (var 3) opDiv) (bnd (var 0) (fldM ["Office", "CappedOffice"] "own_fee")) opSub) opMax))))
def m_Office_result : Fn := fnM 2 4 b_Office_result
set_option maxHeartbeats 4000000 in
theorem pr_Office_result (Z : Zt P K mg) : Pr P w K mg base 1 "result" "Office.result" s_Office_result ["self", "coins"] m_Office_result :=
  pr_mk sc_Office_result (by decide) fun f cdv A outer s H E n hgd hr tk ow => by
    have nd := sc_Office_result.nd
    have hu := roomU hr
    exact (bcons (sif (tcmp k_lt (xv 1) (xfld Z.fo_own_least (xv 0))) (bone (sret xnon)) bnil)
    (bcons (sunp [2, 3] rfl (xfld Z.fo_own_rate (xv 0)) (pgs_cons (gn 2 nd) (pgs_cons (gn 3 nd) pgs_nil)))
    (bone (sret (xmax2 rfl Z.b_max xint (xsub (xfdiv (xmul (xv 1) (xv 2)) (xv 3)) (xfld Z.fo_own_fee (xv 0))))))))
def ts_CappedOffice_result_2 : List (Str × Fn) := [("CappedOffice", m_Office_result)]
theorem Tts_CappedOffice_result_2 (Z : Zt P K mg) {D : Addr} (hD : ClsAt K "CappedOffice" D) : SupTab P w K mg base 1 D "result" 2 2 [] ts_CappedOffice_result_2 := (supC hD (pr_Office_result Z) Z.su_CappedOffice_CappedOffice_result_2 (by decide) rfl sup0)
/-! ### CappedOffice.result: 0 self, 1 coins, 2 __class__ -/
theorem sc_CappedOffice_result : NScope ["self", "coins", "__class__"] ["self", "coins"] ["__class__"] (defScope s_CappedOffice_result) := nscope_by (by decide +kernel)
def b_CappedOffice_result (n : Nat) : M Fl :=
  (seqM (retM (supM ts_CappedOffice_result_2 n (appA 1 ([] : List Str).length (argC (bin (var 1) (bnd (var 0) (fldM ["CappedOffice"] "own_most")) opMin) argN) argN)))
    skipM)
def m_CappedOffice_result : Fn := fnM 2 3 b_CappedOffice_result
set_option maxHeartbeats 4000000 in
theorem pr_CappedOffice_result (Z : Zt P K mg) : PrS P w K mg base 2 "result" "CappedOffice.result" "CappedOffice" s_CappedOffice_result ["self", "coins"] m_CappedOffice_result :=
  prs_mk sc_CappedOffice_result (by decide) fun f cc cda D S1 hD A outer s H E n hgd hr tk ow => by
    have nd := sc_CappedOffice_result.nd
    have hu := roomU hr
    have SX := supX_of (P := P) (w := w) (base := base) (N := ["self", "coins", "__class__"]) (x := "result") (qual := "CappedOffice.result") (st := s_CappedOffice_result) (A := A) (outer := outer) (s := s) (H := H) (E := E) S1 rfl rfl rfl rfl
    have Hts_CappedOffice_result_2 := Tts_CappedOffice_result_2 (P := P) (w := w) (base := base) Z hD
    exact (acons1 (aret (asup n Hts_CappedOffice_result_2 SX hgd hr tk (by decide) (acons (xmin2 rfl Z.b_min (xv 1) (xfld Z.fo_own_most (xv 0))) anil) akN))
    bnil)
def tm_result_2_Office_CappedOffice : List (Str × Fn) := [("Office", m_Office_result), ("CappedOffice", m_CappedOffice_result)]
theorem Ttm_result_2_Office_CappedOffice (Z : Zt P K mg) : TabOk P w K mg base 2 "result" 2 2 [] tm_result_2_Office_CappedOffice := (tabC (mrow (pr_Office_result Z) Z.me_Office_result_2 (by decide) rfl) (tabC (mrowS (pr_CappedOffice_result Z) Z.me_CappedOffice_result_2 (by decide) rfl) tab0))
/-! ### Route.result: 0 self, 1 coins, 2 found, 3 office -/
theorem sc_Route_result : FnScope ["self", "coins", "found", "office"] ["self", "coins"] (defScope s_Route_result) := ⟨rfl, rfl, rfl, by decide +kernel, rfl, by decide +kernel, by decide +kernel⟩
def b_Route_result (n : Nat) : M Fl :=
  (seqM (asgM 2 (var 1))
    (seqM (loopM (itemsM (bnd (var 0) (fldM ["Route"] "own_offices"))) 3 (ifM (asB (isN true (var 2))) (asgM 2 (methM tm_result_2_Office_CappedOffice n "result" (var 3) (appA 1 ([] : List Str).length (argC (var 2) argN) argN))) skipM))
    (retM (var 2))))
def m_Route_result : Fn := fnM 2 4 b_Route_result
set_option maxHeartbeats 4000000 in
theorem pr_Route_result (Z : Zt P K mg) : Pr P w K mg base 3 "result" "Route.result" s_Route_result ["self", "coins"] m_Route_result :=
  pr_mk sc_Route_result (by decide) fun f cdv A outer s H E n hgd hr tk ow => by
    have nd := sc_Route_result.nd
    have hu := roomU hr
    have Htm_result_2_Office_CappedOffice := Ttm_result_2_Office_CappedOffice (P := P) (w := w) (base := base) Z
    exact (bcons (sset 2 nd (xv 1))
    (bcons (sfor 3 rfl nd ow (iu (xfld Z.fo_own_offices (xv 0))) src_u (bone (sif (tnotN (xv 2)) (bone (sset 2 nd (xmeth n Htm_result_2_Office_CappedOffice hgd hr tk (by decide) (xv 3) (acons (xv 2) anil) akN))) bnil)))
    (bone (sret (xv 2)))))
def tm_result_2 : List (Str × Fn) := [("Office", m_Office_result), ("CappedOffice", m_CappedOffice_result), ("Route", m_Route_result)]
theorem Ttm_result_2 (Z : Zt P K mg) : TabOk P w K mg base 3 "result" 2 2 [] tm_result_2 := (tabC (mrow (pr_Office_result Z) Z.me_Office_result_2 (by decide) rfl) (tabC (mrowS (pr_CappedOffice_result Z) Z.me_CappedOffice_result_2 (by decide) rfl) (tabC (mrow (pr_Route_result Z) Z.me_Route_result_2 (by decide) rfl) tab0)))
/-! ### is_worse: 0 one, 1 other, 2 amount, 3 mine, 4 its -/
theorem sc_is_worse : FnScope ["one", "other", "amount", "mine", "its"] ["one", "other", "amount"] (defScope s_is_worse) := ⟨rfl, rfl, rfl, by decide +kernel, rfl, by decide +kernel, by decide +kernel⟩
def b_is_worse (n : Nat) : M Fl :=
  (seqM (par2 3 4 (methM tm_result_2 n "result" (var 0) (appA 1 ([] : List Str).length (argC (var 2) argN) argN)) (methM tm_result_2 n "result" (var 1) (appA 1 ([] : List Str).length (argC (var 2) argN) argN)))
    (seqM (ifM (orT (asB (isN false (var 3))) (asB (isN false (var 4)))) (retM (andV (isN false (var 3)) (isN true (var 4)))) skipM)
    (retM (bin (var 3) (var 4) opLt))))
def m_is_worse : Fn := fnM 3 5 b_is_worse
set_option maxHeartbeats 4000000 in
theorem pr_is_worse (Z : Zt P K mg) : Pr P w K mg base 4 "is_worse" "is_worse" s_is_worse ["one", "other", "amount"] m_is_worse :=
  pr_mk sc_is_worse (by decide) fun f cdv A outer s H E n hgd hr tk ow => by
    have nd := sc_is_worse.nd
    have hu := roomU hr
    have Htm_result_2 := Ttm_result_2 (P := P) (w := w) (base := base) Z
    exact (bcons (spar2 3 4 rfl nd (xmeth n Htm_result_2 hgd hr tk (by decide) (xv 0) (acons (xv 2) anil) akN) (xmeth n Htm_result_2 hgd hr tk (by decide) (xv 1) (acons (xv 2) anil) akN))
    (bcons (sif (PW.pt (wor (tisN (xv 3)) (pw_or1 (tisN (xv 4))))) (bone (sret (xand (xisN (xv 3)) (pe_one (xnotN (xv 4)))))) bnil)
    (bone (sret (xcmp k_lt (xv 3) (xv 4))))))
/-! ### rise: 0 route, 1 width, 2 office -/
theorem sc_rise : FnScope ["route", "width", "office"] ["route", "width"] (defScope s_rise) := ⟨rfl, rfl, rfl, by decide +kernel, rfl, by decide +kernel, by decide +kernel⟩
def b_rise (n : Nat) : M Fl :=
  (retM (bin (bin (var 1) (callM m_product n (argC (lstM (lcM (itemsM (bnd (var 0) (propM tp_offices n))) 2 [2] (ret true) (bin (bnd (var 2) (propM tp_rate n)) (ret (.int 0)) opIx))) argN)) opMul) (callM m_divisor n (argC (var 0) argN)) opDiv))
def m_rise : Fn := fnM 2 3 b_rise
set_option maxHeartbeats 4000000 in
theorem pr_rise (Z : Zt P K mg) : Pr P w K mg base 6 "rise" "rise" s_rise ["route", "width"] m_rise :=
  pr_mk sc_rise (by decide) fun f cdv A outer s H E n hgd hr tk ow => by
    have nd := sc_rise.nd
    have hu := roomU hr
    have D_product := df_row (pr_product (P := P) (w := w) (base := base) Z) Z.fn_product rfl
    have Htp_offices := Ttp_offices (P := P) (w := w) (base := base) Z
    have Htp_rate := Ttp_rate (P := P) (w := w) (base := base) Z
    have D_divisor := df_row (pr_divisor (P := P) (w := w) (base := base) Z) Z.fn_divisor rfl
    exact (bone (sret (xfdiv (xmul (xv 1) (xdef n D_product hgd hr tk (by decide) (acons (xo (olc 2 (own := [("office", 2)]) rfl nd (iu (xprop n Htp_offices hgd hr (by decide) (xv 0))) src_u (blkOk_by (by kernel_rfl)) (by decide) (fun _ _ _ _ _ => pg_name (i := 2) nd rfl (by first | exact Or.inl rfl | exact Or.inr rfl)) (fun _ _ _ _ _ => tsN) (fun _ _ _ _ _ => (xix (xprop n Htp_rate hgd hr (by decide) (xv 2)) xint)))) anil))) (xdef n D_divisor hgd hr tk (by decide) (acons (xv 0) anil)))))
/-! ### first_worse: 0 one, 1 other, 2 begin, 3 width, 4 amount, 5 drop, 6 found, 7 lead -/
theorem sc_first_worse : FnScope ["one", "other", "begin", "width", "amount", "drop", "found", "lead"] ["one", "other"] (defScope s_first_worse) := ⟨rfl, rfl, rfl, by decide +kernel, rfl, by decide +kernel, by decide +kernel⟩
def b_first_worse (n : Nat) : M Fl :=
  (seqM (dropM (callM m_need_alike n (argC (var 0) (argC (var 1) argN))))
    (seqM (par2 2 3 (bin (callM m_regular_from n (argC (var 0) argN)) (callM m_regular_from n (argC (var 1) argN)) opMax) (callM m_common_multiple n (argC (callM m_divisor n (argC (var 0) argN)) (argC (callM m_divisor n (argC (var 1) argN)) argN))))
    (seqM (loopM (rngM (bin (var 2) (var 3) opAdd)) 4 (ifM (asB (callM m_is_worse n (argC (var 0) (argC (var 1) (argC (var 4) argN))))) (retM (var 4)) skipM))
    (seqM (asgM 5 (bin (callM m_rise n (argC (var 1) (argC (var 3) argN))) (callM m_rise n (argC (var 0) (argC (var 3) argN))) opSub))
    (seqM (ifM (asB (bin (var 5) (ret (.int 0)) opLe)) (retM (ret .non)) skipM)
    (seqM (asgO 6 (fits argN))
    (seqM (loopM (rngM2 (var 2) (bin (var 2) (var 3) opAdd)) 4 (seqM (asgM 7 (bin (methM tm_result_2 n "result" (var 0) (appA 1 ([] : List Str).length (argC (var 4) argN) argN)) (methM tm_result_2 n "result" (var 1) (appA 1 ([] : List Str).length (argC (var 4) argN) argN)) opSub))
    (dropM (appM 6 (bin (var 4) (bin (bin (bin (var 7) (var 5) opDiv) (ret (.int 1)) opAdd) (var 3) opMul) opAdd)))))
    (retM (bnd (var 6) fMinL)))))))))
def m_first_worse : Fn := fnM 2 8 b_first_worse
set_option maxHeartbeats 4000000 in
theorem pr_first_worse (Z : Zt P K mg) : Pr P w K mg base 7 "first_worse" "first_worse" s_first_worse ["one", "other"] m_first_worse :=
  pr_mk sc_first_worse (by decide) fun f cdv A outer s H E n hgd hr tk ow => by
    have nd := sc_first_worse.nd
    have hu := roomU hr
    have D_need_alike := df_row (pr_need_alike (P := P) (w := w) (base := base) Z) Z.fn_need_alike rfl
    have D_regular_from := df_row (pr_regular_from (P := P) (w := w) (base := base) Z) Z.fn_regular_from rfl
    have D_common_multiple := df_row (pr_common_multiple (P := P) (w := w) (base := base) Z) Z.fn_common_multiple rfl
    have D_divisor := df_row (pr_divisor (P := P) (w := w) (base := base) Z) Z.fn_divisor rfl
    have D_is_worse := df_row (pr_is_worse (P := P) (w := w) (base := base) Z) Z.fn_is_worse rfl
    have D_rise := df_row (pr_rise (P := P) (w := w) (base := base) Z) Z.fn_rise rfl
    have Htm_result_2 := Ttm_result_2 (P := P) (w := w) (base := base) Z
    exact (bcons (sexpr (xdef n D_need_alike hgd hr tk (by decide) (acons (xv 0) (acons (xv 1) anil))))
    (bcons (spar2 2 3 rfl nd (xmax2 rfl Z.b_max (xdef n D_regular_from hgd hr tk (by decide) (acons (xv 0) anil)) (xdef n D_regular_from hgd hr tk (by decide) (acons (xv 1) anil))) (xdef n D_common_multiple hgd hr tk (by decide) (acons (xdef n D_divisor hgd hr tk (by decide) (acons (xv 0) anil)) (acons (xdef n D_divisor hgd hr tk (by decide) (acons (xv 1) anil)) anil))))
    (bcons (sfor 4 rfl nd ow (irng Z.b_range (xadd (xv 2) (xv 3))) src_rng (bone (sif (tval (xdef n D_is_worse hgd hr tk (by decide) (acons (xv 0) (acons (xv 1) (acons (xv 4) anil))))) (bone (sret (xv 4))) bnil)))
    (bcons (sset 5 nd (xsub (xdef n D_rise hgd hr tk (by decide) (acons (xv 1) (acons (xv 3) anil))) (xdef n D_rise hgd hr tk (by decide) (acons (xv 0) (acons (xv 3) anil)))))
    (bcons (sif (tcmp k_le (xv 5) xint) (bone (sret xnon)) bnil)
    (bcons (sown 6 nd (olst anil))
    (bcons (sfor 4 rfl nd ow (irng2 Z.b_range (xv 2) (xadd (xv 2) (xv 3))) src_rng2 (bcons (sset 7 nd (xsub (xmeth n Htm_result_2 hgd hr tk (by decide) (xv 0) (acons (xv 4) anil) akN) (xmeth n Htm_result_2 hgd hr tk (by decide) (xv 1) (acons (xv 4) anil) akN)))
    (bone (sexpr (xapp 6 (xadd (xv 4) (xmul (xadd (xfdiv (xv 7) (xv 5)) xint) (xv 3))))))))
    (bone (sret (xminL rfl Z.b_min (xv 6)))))))))))
/-! ### relation: 0 one, 1 other, 2 mine, 3 its -/
theorem sc_relation : FnScope ["one", "other", "mine", "its"] ["one", "other"] (defScope s_relation) := ⟨rfl, rfl, rfl, by decide +kernel, rfl, by decide +kernel, by decide +kernel⟩
def b_relation (n : Nat) : M Fl :=
  (seqM (par2 2 3 (callM m_first_worse n (argC (var 0) (argC (var 1) argN))) (callM m_first_worse n (argC (var 1) (argC (var 0) argN))))
    (seqM (ifM (asB (isN false (var 2))) (retM (iteT (asB (isN false (var 3))) (ret (.str "same")) (ret (.str "better")))) skipM)
    (retM (iteT (asB (isN false (var 3))) (ret (.str "worse")) (ret (.str "mixed"))))))
def m_relation : Fn := fnM 2 4 b_relation
set_option maxHeartbeats 4000000 in
theorem pr_relation (Z : Zt P K mg) : Pr P w K mg base 8 "relation" "relation" s_relation ["one", "other"] m_relation :=
  pr_mk sc_relation (by decide) fun f cdv A outer s H E n hgd hr tk ow => by
    have nd := sc_relation.nd
    have hu := roomU hr
    have D_first_worse := df_row (pr_first_worse (P := P) (w := w) (base := base) Z) Z.fn_first_worse rfl
    exact (bcons (spar2 2 3 rfl nd (xdef n D_first_worse hgd hr tk (by decide) (acons (xv 0) (acons (xv 1) anil))) (xdef n D_first_worse hgd hr tk (by decide) (acons (xv 1) (acons (xv 0) anil))))
    (bcons (sif (tisN (xv 2)) (bone (sret (xif (tisN (xv 3)) xstr xstr))) bnil)
    (bone (sret (xif (tisN (xv 3)) xstr xstr)))))
/-! ### law: 0 _law_script, 1 _law_pen_here, 2 _law_turn, 3 _law_ends, 4 _law_labels, 5 _law_third, 6 _law_second, 7 _law_first, 8 _law_routes, 9 _law_is_second, 10 _law_mirror, 11 _law_ahead, 12 _law_behind, 13 _law_one_here, 14 _law_two, 15 _law_office -/
theorem sc_law : FnScope ["_law_script", "_law_pen_here", "_law_turn", "_law_ends", "_law_labels", "_law_third", "_law_second", "_law_first", "_law_routes", "_law_is_second", "_law_mirror", "_law_ahead", "_law_behind", "_law_one_here", "_law_two", "_law_office"] ["_law_script"] (defScope s_law) := ⟨rfl, rfl, rfl, by decide +kernel, rfl, by decide +kernel, by decide +kernel⟩
def b_law (n : Nat) : M Fl :=
  (seqM (asgM 1 (callM m_law_pen n (argC (var 0) argN)))
    (seqM (loopM (rngM (bin (ret (.int 1)) (bin (ret (.int 1)) (bnd (var 0) fLen) opMin) opAdd)) 2 (seqM (unpM [3, 4] (tupM (argC (callM m_law_names n (argC (var 1) (argC (ret (.int 3)) argN))) (argC (callM m_law_names n (argC (var 1) (argC (ret (.int 5)) argN))) argN))))
    (seqM (asgM 5 (callM m_law_part n (argC (var 1) (argC (bin (var 4) (ret (.int 2)) opIx) (argC (bin (var 3) (ret (.int 0)) opIx) (argC (bin (var 3) (ret (.int 1)) opIx) (argC (ret (.int 9)) argN)))))))
    (seqM (asgM 6 (callM m_law_bettered n (argC (var 1) (argC (var 5) (argC (bin (var 4) (ret (.int 1)) opIx) argN)))))
    (seqM (ifM (asB (bin (callM m_law_draw n (argC (var 1) (argC (ret (.int 4)) argN))) (ret (.int 0)) opEq)) (asgM 6 (callM m_law_part n (argC (var 1) (argC (bin (var 4) (ret (.int 1)) opIx) (argC (bin (var 3) (ret (.int 0)) opIx) (argC (bin (var 3) (ret (.int 1)) opIx) (argC (ret (.int 9)) argN))))))) skipM)
    (seqM (asgM 7 (callM m_law_bettered n (argC (var 1) (argC (var 6) (argC (bin (var 4) (ret (.int 0)) opIx) argN)))))
    (seqM (asgM 8 (lstM (lcM (itemsM (tupM (argC (var 7) (argC (var 6) (argC (var 5) argN))))) 13 [13] (ret true) (callM m_law_joined n (argC (bin (var 3) (ret (.int 0)) opIx) (argC (lstM (fits (argC (var 13) argN))) argN))))))
    (seqM (ifM (asB (isN true (callM m_first_worse n (argC (bin (var 8) (ret (.int 0)) opIx) (argC (bin (var 8) (ret (.int 1)) opIx) argN))))) (retM (ret (.bl false))) skipM)
    (seqM (asgM 9 (isN false (callM m_first_worse n (argC (bin (var 8) (ret (.int 1)) opIx) (argC (bin (var 8) (ret (.int 2)) opIx) argN)))))
    (seqM (ifM (andT (asB (var 9)) (asB (isN true (callM m_first_worse n (argC (bin (var 8) (ret (.int 0)) opIx) (argC (bin (var 8) (ret (.int 2)) opIx) argN)))))) (retM (ret (.bl false))) skipM)
    (seqM (asgM 10 (dispM (("same", (ret (.str "same"))) :: ("better", (ret (.str "worse"))) :: ("worse", (ret (.str "better"))) :: ("mixed", (ret (.str "mixed"))) :: [])))
    (seqM (ifM (asB (bin (callM m_relation n (argC (bin (var 8) (ret (.int 2)) opIx) (argC (bin (var 8) (ret (.int 1)) opIx) argN))) (bin (var 10) (callM m_relation n (argC (bin (var 8) (ret (.int 1)) opIx) (argC (bin (var 8) (ret (.int 2)) opIx) argN))) hgetP) opNe)) (retM (ret (.bl false))) skipM)
    (seqM (unpM [11, 12] (tupM (argC (callM m_law_part n (argC (var 1) (argC (bin (var 4) (ret (.int 3)) opIx) (argC (bin (var 3) (ret (.int 2)) opIx) (argC (bin (var 3) (ret (.int 0)) opIx) (argC (ret (.int 4)) argN)))))) (argC (callM m_law_part n (argC (var 1) (argC (bin (var 4) (ret (.int 4)) opIx) (argC (bin (var 3) (ret (.int 1)) opIx) (argC (bin (var 3) (ret (.int 2)) opIx) (argC (ret (.int 4)) argN)))))) argN))))
    (seqM (asgM 13 (lstM (lcM (itemsM (tupM (argC (var 7) (argC (var 6) argN)))) 15 [15] (ret true) (callM m_law_joined n (argC (bin (var 3) (ret (.int 2)) opIx) (argC (lstM (fits (argC (var 11) (argC (var 15) argN)))) argN))))))
    (seqM (asgM 14 (lstM (lcM (itemsM (tupM (argC (var 7) (argC (var 6) argN)))) 15 [15] (ret true) (callM m_law_joined n (argC (bin (var 3) (ret (.int 0)) opIx) (argC (lstM (fits (argC (var 15) (argC (var 12) argN)))) argN))))))
    (ifM (orT (asB (isN true (callM m_first_worse n (argC (bin (var 13) (ret (.int 0)) opIx) (argC (bin (var 13) (ret (.int 1)) opIx) argN))))) (asB (isN true (callM m_first_worse n (argC (bin (var 14) (ret (.int 0)) opIx) (argC (bin (var 14) (ret (.int 1)) opIx) argN)))))) (retM (ret (.bl false))) skipM))))))))))))))))
    (retM (ret (.bl true)))))
def m_law : Fn := fnM 1 16 b_law
set_option maxHeartbeats 4000000 in
theorem pr_law (Z : Zt P K mg) : Pr P w K mg base 9 "law" "law" s_law ["_law_script"] m_law :=
  pr_mk sc_law (by decide) fun f cdv A outer s H E n hgd hr tk ow => by
    have nd := sc_law.nd
    have hu := roomU hr
    have D_law_pen := df_row (pr_law_pen (P := P) (w := w) (base := base) Z) Z.fn_law_pen rfl
    have D_law_names := df_row (pr_law_names (P := P) (w := w) (base := base) Z) Z.fn_law_names rfl
    have D_law_part := df_row (pr_law_part (P := P) (w := w) (base := base) Z) Z.fn_law_part rfl
    have D_law_bettered := df_row (pr_law_bettered (P := P) (w := w) (base := base) Z) Z.fn_law_bettered rfl
    have D_law_draw := df_row (pr_law_draw (P := P) (w := w) (base := base) Z) Z.fn_law_draw rfl
    have D_law_joined := df_row (pr_law_joined (P := P) (w := w) (base := base) Z) Z.fn_law_joined rfl
    have D_first_worse := df_row (pr_first_worse (P := P) (w := w) (base := base) Z) Z.fn_first_worse rfl
    have D_relation := df_row (pr_relation (P := P) (w := w) (base := base) Z) Z.fn_relation rfl
    exact (bcons (sset 1 nd (xdef n D_law_pen hgd hr tk (by decide) (acons (xv 0) anil)))
    (bcons (sfor 2 rfl nd ow (irng Z.b_range (xadd xint (xmin2 rfl Z.b_min xint (xlen Z.b_len (xv 0))))) src_rng (bcons (sunp [3, 4] rfl (xtup (acons (xdef n D_law_names hgd hr tk (by decide) (acons (xv 1) (acons xint anil))) (acons (xdef n D_law_names hgd hr tk (by decide) (acons (xv 1) (acons xint anil))) anil))) (pgs_cons (gn 3 nd) (pgs_cons (gn 4 nd) pgs_nil)))
    (bcons (sset 5 nd (xdef n D_law_part hgd hr tk (by decide) (acons (xv 1) (acons (xix (xv 4) xint) (acons (xix (xv 3) xint) (acons (xix (xv 3) xint) (acons xint anil)))))))
    (bcons (sset 6 nd (xdef n D_law_bettered hgd hr tk (by decide) (acons (xv 1) (acons (xv 5) (acons (xix (xv 4) xint) anil)))))
    (bcons (sif (tcmp (k_eq hu) (xdef n D_law_draw hgd hr tk (by decide) (acons (xv 1) (acons xint anil))) xint) (bone (sset 6 nd (xdef n D_law_part hgd hr tk (by decide) (acons (xv 1) (acons (xix (xv 4) xint) (acons (xix (xv 3) xint) (acons (xix (xv 3) xint) (acons xint anil)))))))) bnil)
    (bcons (sset 7 nd (xdef n D_law_bettered hgd hr tk (by decide) (acons (xv 1) (acons (xv 6) (acons (xix (xv 4) xint) anil)))))
    (bcons (slcV 8 13 (own := [("_law_one_here", 13)]) rfl nd (iu (xtup (acons (xv 7) (acons (xv 6) (acons (xv 5) anil))))) src_u (blkOk_by (by kernel_rfl)) (by decide) (fun _ _ _ _ _ => pg_name (i := 13) nd rfl (by first | exact Or.inl rfl | exact Or.inr rfl)) (fun _ _ _ _ _ => tsN) (fun _ _ _ _ _ => (xdef n D_law_joined hgd hr takesF (by decide) (acons (xix (xv 3) xint) (acons (xo (olst (acons (xv 13) anil))) anil)))))
    (bcons (sif (tnotN (xdef n D_first_worse hgd hr tk (by decide) (acons (xix (xv 8) xint) (acons (xix (xv 8) xint) anil)))) (bone (sret xbl)) bnil)
    (bcons (sset 9 nd (xisN (xdef n D_first_worse hgd hr tk (by decide) (acons (xix (xv 8) xint) (acons (xix (xv 8) xint) anil)))))
    (bcons (sif (PW.pt (wand (tval (xv 9)) (pw_and1 (tnotN (xdef n D_first_worse hgd hr tk (by decide) (acons (xix (xv 8) xint) (acons (xix (xv 8) xint) anil))))))) (bone (sret xbl)) bnil)
    (bcons (sset 10 nd (xdisp (kC xstr (kC xstr (kC xstr (kC xstr kN))))))
    (bcons (sif (tcmp (k_ne hu) (xdef n D_relation hgd hr tk (by decide) (acons (xix (xv 8) xint) (acons (xix (xv 8) xint) anil))) (xhget hu (xv 10) (xdef n D_relation hgd hr tk (by decide) (acons (xix (xv 8) xint) (acons (xix (xv 8) xint) anil))))) (bone (sret xbl)) bnil)
    (bcons (sunp [11, 12] rfl (xtup (acons (xdef n D_law_part hgd hr tk (by decide) (acons (xv 1) (acons (xix (xv 4) xint) (acons (xix (xv 3) xint) (acons (xix (xv 3) xint) (acons xint anil)))))) (acons (xdef n D_law_part hgd hr tk (by decide) (acons (xv 1) (acons (xix (xv 4) xint) (acons (xix (xv 3) xint) (acons (xix (xv 3) xint) (acons xint anil)))))) anil))) (pgs_cons (gn 11 nd) (pgs_cons (gn 12 nd) pgs_nil)))
    (bcons (slcV 13 15 (own := [("_law_office", 15)]) rfl nd (iu (xtup (acons (xv 7) (acons (xv 6) anil)))) src_u (blkOk_by (by kernel_rfl)) (by decide) (fun _ _ _ _ _ => pg_name (i := 15) nd rfl (by first | exact Or.inl rfl | exact Or.inr rfl)) (fun _ _ _ _ _ => tsN) (fun _ _ _ _ _ => (xdef n D_law_joined hgd hr takesF (by decide) (acons (xix (xv 3) xint) (acons (xo (olst (acons (xv 11) (acons (xv 15) anil)))) anil)))))
    (bcons (slcV 14 15 (own := [("_law_office", 15)]) rfl nd (iu (xtup (acons (xv 7) (acons (xv 6) anil)))) src_u (blkOk_by (by kernel_rfl)) (by decide) (fun _ _ _ _ _ => pg_name (i := 15) nd rfl (by first | exact Or.inl rfl | exact Or.inr rfl)) (fun _ _ _ _ _ => tsN) (fun _ _ _ _ _ => (xdef n D_law_joined hgd hr takesF (by decide) (acons (xix (xv 3) xint) (acons (xo (olst (acons (xv 15) (acons (xv 12) anil)))) anil)))))
    (bone (sif (PW.pt (wor (tnotN (xdef n D_first_worse hgd hr tk (by decide) (acons (xix (xv 13) xint) (acons (xix (xv 13) xint) anil)))) (pw_or1 (tnotN (xdef n D_first_worse hgd hr tk (by decide) (acons (xix (xv 14) xint) (acons (xix (xv 14) xint) anil))))))) (bone (sret xbl)) bnil)))))))))))))))))
    (bone (sret xbl))))
end
set_option maxHeartbeats 0 in
theorem all_mk {l : PySem.W.OpenLaw} {w : World} {K : PySem.W.Frag} {h : Heap} {mg : Str → Option Value} {fa : Addr} (X : K.In h) (G : h.Ns mainGlobals mg) (hfa : mg "law" = some (.ref fa))
    {f_law_pen : Addr} {oc_law_pen : Value} {od_law_pen : Option Addr} {an_law_pen : Option Addr} {sl_law_pen : Array (Option Value)} {kV_law_pen : Value} {dc_law_pen : Value} {pm_law_pen : Value} {cd_law_pen : Value} {ct_law_pen : Value} {f_law_draw : Addr} {oc_law_draw : Value} {od_law_draw : Option Addr} {an_law_draw : Option Addr} {sl_law_draw : Array (Option Value)} {kV_law_draw : Value} {dc_law_draw : Value} {pm_law_draw : Value} {cd_law_draw : Value} {ct_law_draw : Value} {f_law_pick : Addr} {oc_law_pick : Value} {od_law_pick : Option Addr} {an_law_pick : Option Addr} {sl_law_pick : Array (Option Value)} {kV_law_pick : Value} {dc_law_pick : Value} {pm_law_pick : Value} {cd_law_pick : Value} {ct_law_pick : Value} {f_law_names : Addr} {oc_law_names : Value} {od_law_names : Option Addr} {an_law_names : Option Addr} {sl_law_names : Array (Option Value)} {kV_law_names : Value} {dc_law_names : Value} {pm_law_names : Value} {cd_law_names : Value} {ct_law_names : Value} {f_law_part : Addr} {oc_law_part : Value} {od_law_part : Option Addr} {an_law_part : Option Addr} {sl_law_part : Array (Option Value)} {kV_law_part : Value} {dc_law_part : Value} {pm_law_part : Value} {cd_law_part : Value} {ct_law_part : Value} {f_law_bettered : Addr} {oc_law_bettered : Value} {od_law_bettered : Option Addr} {an_law_bettered : Option Addr} {sl_law_bettered : Array (Option Value)} {kV_law_bettered : Value} {dc_law_bettered : Value} {pm_law_bettered : Value} {cd_law_bettered : Value} {ct_law_bettered : Value} {tg_ALPHABET : Tok} {tg_LETTERS : Tok} {f_is_name : Addr} {oc_is_name : Value} {od_is_name : Option Addr} {an_is_name : Option Addr} {sl_is_name : Array (Option Value)} {kV_is_name : Value} {dc_is_name : Value} {pm_is_name : Value} {cd_is_name : Value} {ct_is_name : Value} {f_need_name : Addr} {oc_need_name : Value} {od_need_name : Option Addr} {an_need_name : Option Addr} {sl_need_name : Array (Option Value)} {kV_need_name : Value} {dc_need_name : Value} {pm_need_name : Value} {cd_need_name : Value} {ct_need_name : Value} {C_Office : Addr} {C_Route : Addr} {C_CappedOffice : Addr} {p_Office_source : Addr} {pz_Office_source : List Value} {f_Office_source : Addr} {oc_Office_source : Value} {od_Office_source : Option Addr} {an_Office_source : Option Addr} {sl_Office_source : Array (Option Value)} {kV_Office_source : Value} {dc_Office_source : Value} {pm_Office_source : Value} {cd_Office_source : Value} {ct_Office_source : Value} {p_Office_goal : Addr} {pz_Office_goal : List Value} {f_Office_goal : Addr} {oc_Office_goal : Value} {od_Office_goal : Option Addr} {an_Office_goal : Option Addr} {sl_Office_goal : Array (Option Value)} {kV_Office_goal : Value} {dc_Office_goal : Value} {pm_Office_goal : Value} {cd_Office_goal : Value} {ct_Office_goal : Value} {tk_Route_LENGTH : Tok} {f_Route_init : Addr} {oc_Route_init : Value} {od_Route_init : Option Addr} {an_Route_init : Option Addr} {sl_Route_init : Array (Option Value)} {kV_Route_init : Value} {dc_Route_init : Value} {pm_Route_init : Value} {cd_Route_init : Value} {ct_Route_init : Value} {f_Route_add : Addr} {oc_Route_add : Value} {od_Route_add : Option Addr} {an_Route_add : Option Addr} {sl_Route_add : Array (Option Value)} {kV_Route_add : Value} {dc_Route_add : Value} {pm_Route_add : Value} {cd_Route_add : Value} {ct_Route_add : Value} {cdd_CappedOffice : ClassData} {cdd_Office : ClassData} {f_is_integer : Addr} {oc_is_integer : Value} {od_is_integer : Option Addr} {an_is_integer : Option Addr} {sl_is_integer : Array (Option Value)} {kV_is_integer : Value} {dc_is_integer : Value} {pm_is_integer : Value} {cd_is_integer : Value} {ct_is_integer : Value} {tv_Office_RATE : Tok} {f_is_rate : Addr} {oc_is_rate : Value} {od_is_rate : Option Addr} {an_is_rate : Option Addr} {sl_is_rate : Array (Option Value)} {kV_is_rate : Value} {dc_is_rate : Value} {pm_is_rate : Value} {cd_is_rate : Value} {ct_is_rate : Value} {f_need_integer : Addr} {oc_need_integer : Value} {od_need_integer : Option Addr} {an_need_integer : Option Addr} {sl_need_integer : Array (Option Value)} {kV_need_integer : Value} {dc_need_integer : Value} {pm_need_integer : Value} {cd_need_integer : Value} {ct_need_integer : Value} {tk_CappedOffice_FEE : Tok} {tk_Office_FEE : Tok} {tk_CappedOffice_LEAST : Tok} {tk_Office_LEAST : Tok} {f_Office_init : Addr} {oc_Office_init : Value} {od_Office_init : Option Addr} {an_Office_init : Option Addr} {sl_Office_init : Array (Option Value)} {kV_Office_init : Value} {dc_Office_init : Value} {pm_Office_init : Value} {cd_Office_init : Value} {ct_Office_init : Value} {tk_CappedOffice_MOST : Tok} {f_CappedOffice_init : Addr} {cc_CappedOffice_init : Addr} {cda_CappedOffice_init : Addr} {oc_CappedOffice_init : Value} {od_CappedOffice_init : Option Addr} {an_CappedOffice_init : Option Addr} {sl_CappedOffice_init : Array (Option Value)} {kV_CappedOffice_init : Value} {dc_CappedOffice_init : Value} {pm_CappedOffice_init : Value} {ct_CappedOffice_init : Value} {oce_CappedOffice_init : Value} {ode_CappedOffice_init : Option Addr} {sle_CappedOffice_init : Array (Option Value)} {ocg_CappedOffice_init : Value} {odg_CappedOffice_init : Option Addr} {vsg_CappedOffice_init : Array Value} {slg_CappedOffice_init : Array (Option Value)} {fi_CappedOffice_init : Str} {tf_CappedOffice_init : Tok} {f_law_one : Addr} {oc_law_one : Value} {od_law_one : Option Addr} {an_law_one : Option Addr} {sl_law_one : Array (Option Value)} {kV_law_one : Value} {dc_law_one : Value} {pm_law_one : Value} {cd_law_one : Value} {ct_law_one : Value} {f_law_joined : Addr} {oc_law_joined : Value} {od_law_joined : Option Addr} {an_law_joined : Option Addr} {sl_law_joined : Array (Option Value)} {kV_law_joined : Value} {dc_law_joined : Value} {pm_law_joined : Value} {cd_law_joined : Value} {ct_law_joined : Value} {p_Route_end : Addr} {pz_Route_end : List Value} {f_Route_end : Addr} {oc_Route_end : Value} {od_Route_end : Option Addr} {an_Route_end : Option Addr} {sl_Route_end : Array (Option Value)} {kV_Route_end : Value} {dc_Route_end : Value} {pm_Route_end : Value} {cd_Route_end : Value} {ct_Route_end : Value} {p_Route_start : Addr} {pz_Route_start : List Value} {f_Route_start : Addr} {oc_Route_start : Value} {od_Route_start : Option Addr} {an_Route_start : Option Addr} {sl_Route_start : Array (Option Value)} {kV_Route_start : Value} {dc_Route_start : Value} {pm_Route_start : Value} {cd_Route_start : Value} {ct_Route_start : Value} {p_Route_offices : Addr} {pz_Route_offices : List Value} {f_Route_offices : Addr} {oc_Route_offices : Value} {od_Route_offices : Option Addr} {an_Route_offices : Option Addr} {sl_Route_offices : Array (Option Value)} {kV_Route_offices : Value} {dc_Route_offices : Value} {pm_Route_offices : Value} {cd_Route_offices : Value} {ct_Route_offices : Value} {p_CappedOffice_most : Addr} {pz_CappedOffice_most : List Value} {f_CappedOffice_most : Addr} {oc_CappedOffice_most : Value} {od_CappedOffice_most : Option Addr} {an_CappedOffice_most : Option Addr} {sl_CappedOffice_most : Array (Option Value)} {kV_CappedOffice_most : Value} {dc_CappedOffice_most : Value} {pm_CappedOffice_most : Value} {cd_CappedOffice_most : Value} {ct_CappedOffice_most : Value} {p_Office_most : Addr} {pz_Office_most : List Value} {f_Office_most : Addr} {oc_Office_most : Value} {od_Office_most : Option Addr} {an_Office_most : Option Addr} {sl_Office_most : Array (Option Value)} {kV_Office_most : Value} {dc_Office_most : Value} {pm_Office_most : Value} {cd_Office_most : Value} {ct_Office_most : Value} {f_Route_len : Addr} {oc_Route_len : Value} {od_Route_len : Option Addr} {an_Route_len : Option Addr} {sl_Route_len : Array (Option Value)} {kV_Route_len : Value} {dc_Route_len : Value} {pm_Route_len : Value} {cd_Route_len : Value} {ct_Route_len : Value} {tg_LONGEST_ROUTE : Tok} {f_need_alike : Addr} {oc_need_alike : Value} {od_need_alike : Option Addr} {an_need_alike : Option Addr} {sl_need_alike : Array (Option Value)} {kV_need_alike : Value} {dc_need_alike : Value} {pm_need_alike : Value} {cd_need_alike : Value} {ct_need_alike : Value} {p_Office_rate : Addr} {pz_Office_rate : List Value} {f_Office_rate : Addr} {oc_Office_rate : Value} {od_Office_rate : Option Addr} {an_Office_rate : Option Addr} {sl_Office_rate : Array (Option Value)} {kV_Office_rate : Value} {dc_Office_rate : Value} {pm_Office_rate : Value} {cd_Office_rate : Value} {ct_Office_rate : Value} {f_reduced : Addr} {oc_reduced : Value} {od_reduced : Option Addr} {an_reduced : Option Addr} {sl_reduced : Array (Option Value)} {kV_reduced : Value} {dc_reduced : Value} {pm_reduced : Value} {cd_reduced : Value} {ct_reduced : Value} {f_times : Addr} {oc_times : Value} {od_times : Option Addr} {an_times : Option Addr} {sl_times : Array (Option Value)} {kV_times : Value} {dc_times : Value} {pm_times : Value} {cd_times : Value} {ct_times : Value} {p_Route_rate : Addr} {pz_Route_rate : List Value} {f_Route_rate : Addr} {oc_Route_rate : Value} {od_Route_rate : Option Addr} {an_Route_rate : Option Addr} {sl_Route_rate : Array (Option Value)} {kV_Route_rate : Value} {dc_Route_rate : Value} {pm_Route_rate : Value} {cd_Route_rate : Value} {ct_Route_rate : Value} {p_Office_least : Addr} {pz_Office_least : List Value} {f_Office_least : Addr} {oc_Office_least : Value} {od_Office_least : Option Addr} {an_Office_least : Option Addr} {sl_Office_least : Array (Option Value)} {kV_Office_least : Value} {dc_Office_least : Value} {pm_Office_least : Value} {cd_Office_least : Value} {ct_Office_least : Value} {p_Office_fee : Addr} {pz_Office_fee : List Value} {f_Office_fee : Addr} {oc_Office_fee : Value} {od_Office_fee : Option Addr} {an_Office_fee : Option Addr} {sl_Office_fee : Array (Option Value)} {kV_Office_fee : Value} {dc_Office_fee : Value} {pm_Office_fee : Value} {cd_Office_fee : Value} {ct_Office_fee : Value} {f_regular_from : Addr} {oc_regular_from : Value} {od_regular_from : Option Addr} {an_regular_from : Option Addr} {sl_regular_from : Array (Option Value)} {kV_regular_from : Value} {dc_regular_from : Value} {pm_regular_from : Value} {cd_regular_from : Value} {ct_regular_from : Value} {f_common_multiple : Addr} {oc_common_multiple : Value} {od_common_multiple : Option Addr} {an_common_multiple : Option Addr} {sl_common_multiple : Array (Option Value)} {kV_common_multiple : Value} {dc_common_multiple : Value} {pm_common_multiple : Value} {cd_common_multiple : Value} {ct_common_multiple : Value} {f_product : Addr} {oc_product : Value} {od_product : Option Addr} {an_product : Option Addr} {sl_product : Array (Option Value)} {kV_product : Value} {dc_product : Value} {pm_product : Value} {cd_product : Value} {ct_product : Value} {f_divisor : Addr} {oc_divisor : Value} {od_divisor : Option Addr} {an_divisor : Option Addr} {sl_divisor : Array (Option Value)} {kV_divisor : Value} {dc_divisor : Value} {pm_divisor : Value} {cd_divisor : Value} {ct_divisor : Value} {f_Office_result : Addr} {oc_Office_result : Value} {od_Office_result : Option Addr} {an_Office_result : Option Addr} {sl_Office_result : Array (Option Value)} {kV_Office_result : Value} {dc_Office_result : Value} {pm_Office_result : Value} {cd_Office_result : Value} {ct_Office_result : Value} {f_CappedOffice_result : Addr} {cc_CappedOffice_result : Addr} {cda_CappedOffice_result : Addr} {oc_CappedOffice_result : Value} {od_CappedOffice_result : Option Addr} {an_CappedOffice_result : Option Addr} {sl_CappedOffice_result : Array (Option Value)} {kV_CappedOffice_result : Value} {dc_CappedOffice_result : Value} {pm_CappedOffice_result : Value} {ct_CappedOffice_result : Value} {oce_CappedOffice_result : Value} {ode_CappedOffice_result : Option Addr} {sle_CappedOffice_result : Array (Option Value)} {ocg_CappedOffice_result : Value} {odg_CappedOffice_result : Option Addr} {vsg_CappedOffice_result : Array Value} {slg_CappedOffice_result : Array (Option Value)} {fi_CappedOffice_result : Str} {tf_CappedOffice_result : Tok} {f_Route_result : Addr} {oc_Route_result : Value} {od_Route_result : Option Addr} {an_Route_result : Option Addr} {sl_Route_result : Array (Option Value)} {kV_Route_result : Value} {dc_Route_result : Value} {pm_Route_result : Value} {cd_Route_result : Value} {ct_Route_result : Value} {f_is_worse : Addr} {oc_is_worse : Value} {od_is_worse : Option Addr} {an_is_worse : Option Addr} {sl_is_worse : Array (Option Value)} {kV_is_worse : Value} {dc_is_worse : Value} {pm_is_worse : Value} {cd_is_worse : Value} {ct_is_worse : Value} {f_rise : Addr} {oc_rise : Value} {od_rise : Option Addr} {an_rise : Option Addr} {sl_rise : Array (Option Value)} {kV_rise : Value} {dc_rise : Value} {pm_rise : Value} {cd_rise : Value} {ct_rise : Value} {f_first_worse : Addr} {oc_first_worse : Value} {od_first_worse : Option Addr} {an_first_worse : Option Addr} {sl_first_worse : Array (Option Value)} {kV_first_worse : Value} {dc_first_worse : Value} {pm_first_worse : Value} {cd_first_worse : Value} {ct_first_worse : Value} {f_relation : Addr} {oc_relation : Value} {od_relation : Option Addr} {an_relation : Option Addr} {sl_relation : Array (Option Value)} {kV_relation : Value} {dc_relation : Value} {pm_relation : Value} {cd_relation : Value} {ct_relation : Value} {f_law : Addr} {oc_law : Value} {od_law : Option Addr} {an_law : Option Addr} {sl_law : Array (Option Value)} {kV_law : Value} {dc_law : Value} {pm_law : Value} {cd_law : Value} {ct_law : Value}
    (a_law_pen : PySem.W.nsIn K mainGlobals "_law_pen" = some (some (.ref f_law_pen)))
    (a_law_draw : PySem.W.nsIn K mainGlobals "_law_draw" = some (some (.ref f_law_draw)))
    (a_law_pick : PySem.W.nsIn K mainGlobals "_law_pick" = some (some (.ref f_law_pick)))
    (a_law_names : PySem.W.nsIn K mainGlobals "_law_names" = some (some (.ref f_law_names)))
    (a_law_part : PySem.W.nsIn K mainGlobals "_law_part" = some (some (.ref f_law_part)))
    (a_law_bettered : PySem.W.nsIn K mainGlobals "_law_bettered" = some (some (.ref f_law_bettered)))
    (a_is_name : PySem.W.nsIn K mainGlobals "is_name" = some (some (.ref f_is_name)))
    (a_need_name : PySem.W.nsIn K mainGlobals "need_name" = some (some (.ref f_need_name)))
    (a_Office : PySem.W.nsIn K mainGlobals "Office" = some (some (.ref C_Office)))
    (a_Route : PySem.W.nsIn K mainGlobals "Route" = some (some (.ref C_Route)))
    (a_CappedOffice : PySem.W.nsIn K mainGlobals "CappedOffice" = some (some (.ref C_CappedOffice)))
    (a_is_integer : PySem.W.nsIn K mainGlobals "is_integer" = some (some (.ref f_is_integer)))
    (a_is_rate : PySem.W.nsIn K mainGlobals "is_rate" = some (some (.ref f_is_rate)))
    (a_need_integer : PySem.W.nsIn K mainGlobals "need_integer" = some (some (.ref f_need_integer)))
    (a_law_one : PySem.W.nsIn K mainGlobals "_law_one" = some (some (.ref f_law_one)))
    (a_law_joined : PySem.W.nsIn K mainGlobals "_law_joined" = some (some (.ref f_law_joined)))
    (a_need_alike : PySem.W.nsIn K mainGlobals "need_alike" = some (some (.ref f_need_alike)))
    (a_reduced : PySem.W.nsIn K mainGlobals "reduced" = some (some (.ref f_reduced)))
    (a_times : PySem.W.nsIn K mainGlobals "times" = some (some (.ref f_times)))
    (a_regular_from : PySem.W.nsIn K mainGlobals "regular_from" = some (some (.ref f_regular_from)))
    (a_common_multiple : PySem.W.nsIn K mainGlobals "common_multiple" = some (some (.ref f_common_multiple)))
    (a_product : PySem.W.nsIn K mainGlobals "product" = some (some (.ref f_product)))
    (a_divisor : PySem.W.nsIn K mainGlobals "divisor" = some (some (.ref f_divisor)))
    (a_is_worse : PySem.W.nsIn K mainGlobals "is_worse" = some (some (.ref f_is_worse)))
    (a_rise : PySem.W.nsIn K mainGlobals "rise" = some (some (.ref f_rise)))
    (a_first_worse : PySem.W.nsIn K mainGlobals "first_worse" = some (some (.ref f_first_worse)))
    (a_relation : PySem.W.nsIn K mainGlobals "relation" = some (some (.ref f_relation)))
    (a_law : PySem.W.nsIn K mainGlobals "law" = some (some (.ref f_law)))
    (m_CappedOffice_source : PySem.W.findIn K (.ref C_CappedOffice) "source" = some (some (.ref p_Office_source)))
    (m_Office_source : PySem.W.findIn K (.ref C_Office) "source" = some (some (.ref p_Office_source)))
    (m_CappedOffice_goal : PySem.W.findIn K (.ref C_CappedOffice) "goal" = some (some (.ref p_Office_goal)))
    (m_Office_goal : PySem.W.findIn K (.ref C_Office) "goal" = some (some (.ref p_Office_goal)))
    (mi_Route : PySem.W.findIn K (.ref C_Route) "__init__" = some (some (.ref f_Route_init)))
    (bm_Route_add : PySem.W.findIn K (.ref C_Route) (PySem.dunder "add") = some (some (.ref f_Route_add)))
    (mi_Office : PySem.W.findIn K (.ref C_Office) "__init__" = some (some (.ref f_Office_init)))
    (mi_CappedOffice : PySem.W.findIn K (.ref C_CappedOffice) "__init__" = some (some (.ref f_CappedOffice_init)))
    (m_Route_end : PySem.W.findIn K (.ref C_Route) "end" = some (some (.ref p_Route_end)))
    (m_Route_start : PySem.W.findIn K (.ref C_Route) "start" = some (some (.ref p_Route_start)))
    (m_Route_offices : PySem.W.findIn K (.ref C_Route) "offices" = some (some (.ref p_Route_offices)))
    (m_CappedOffice_most : PySem.W.findIn K (.ref C_CappedOffice) "most" = some (some (.ref p_CappedOffice_most)))
    (m_Office_most : PySem.W.findIn K (.ref C_Office) "most" = some (some (.ref p_Office_most)))
    (m_Route_len : PySem.W.findIn K (.ref C_Route) "__len__" = some (some (.ref f_Route_len)))
    (m_CappedOffice_rate : PySem.W.findIn K (.ref C_CappedOffice) "rate" = some (some (.ref p_Office_rate)))
    (m_Office_rate : PySem.W.findIn K (.ref C_Office) "rate" = some (some (.ref p_Office_rate)))
    (m_Route_rate : PySem.W.findIn K (.ref C_Route) "rate" = some (some (.ref p_Route_rate)))
    (m_CappedOffice_least : PySem.W.findIn K (.ref C_CappedOffice) "least" = some (some (.ref p_Office_least)))
    (m_Office_least : PySem.W.findIn K (.ref C_Office) "least" = some (some (.ref p_Office_least)))
    (m_CappedOffice_fee : PySem.W.findIn K (.ref C_CappedOffice) "fee" = some (some (.ref p_Office_fee)))
    (m_Office_fee : PySem.W.findIn K (.ref C_Office) "fee" = some (some (.ref p_Office_fee)))
    (m_CappedOffice_result : PySem.W.findIn K (.ref C_CappedOffice) "result" = some (some (.ref f_CappedOffice_result)))
    (m_Office_result : PySem.W.findIn K (.ref C_Office) "result" = some (some (.ref f_Office_result)))
    (m_Route_result : PySem.W.findIn K (.ref C_Route) "result" = some (some (.ref f_Route_result)))
    (pr_Office_source : PySem.W.recIn K p_Office_source "property" = some (.ref f_Office_source :: pz_Office_source))
    (pr_Office_goal : PySem.W.recIn K p_Office_goal "property" = some (.ref f_Office_goal :: pz_Office_goal))
    (pr_Route_end : PySem.W.recIn K p_Route_end "property" = some (.ref f_Route_end :: pz_Route_end))
    (pr_Route_start : PySem.W.recIn K p_Route_start "property" = some (.ref f_Route_start :: pz_Route_start))
    (pr_Route_offices : PySem.W.recIn K p_Route_offices "property" = some (.ref f_Route_offices :: pz_Route_offices))
    (pr_CappedOffice_most : PySem.W.recIn K p_CappedOffice_most "property" = some (.ref f_CappedOffice_most :: pz_CappedOffice_most))
    (pr_Office_most : PySem.W.recIn K p_Office_most "property" = some (.ref f_Office_most :: pz_Office_most))
    (pr_Office_rate : PySem.W.recIn K p_Office_rate "property" = some (.ref f_Office_rate :: pz_Office_rate))
    (pr_Route_rate : PySem.W.recIn K p_Route_rate "property" = some (.ref f_Route_rate :: pz_Route_rate))
    (pr_Office_least : PySem.W.recIn K p_Office_least "property" = some (.ref f_Office_least :: pz_Office_least))
    (pr_Office_fee : PySem.W.recIn K p_Office_fee "property" = some (.ref f_Office_fee :: pz_Office_fee))
    (l_law_pen : K.lookup f_law_pen = some ⟨oc_law_pen, od_law_pen, .func (PySem.W.fnOf "_law_pen" "_law_pen" (defArgs s_law_pen) (defBody s_law_pen) (defScope s_law_pen) .none kV_law_pen dc_law_pen pm_law_pen an_law_pen cd_law_pen ct_law_pen), sl_law_pen⟩)
    (l_law_draw : K.lookup f_law_draw = some ⟨oc_law_draw, od_law_draw, .func (PySem.W.fnOf "_law_draw" "_law_draw" (defArgs s_law_draw) (defBody s_law_draw) (defScope s_law_draw) .none kV_law_draw dc_law_draw pm_law_draw an_law_draw cd_law_draw ct_law_draw), sl_law_draw⟩)
    (l_law_pick : K.lookup f_law_pick = some ⟨oc_law_pick, od_law_pick, .func (PySem.W.fnOf "_law_pick" "_law_pick" (defArgs s_law_pick) (defBody s_law_pick) (defScope s_law_pick) .none kV_law_pick dc_law_pick pm_law_pick an_law_pick cd_law_pick ct_law_pick), sl_law_pick⟩)
    (l_law_names : K.lookup f_law_names = some ⟨oc_law_names, od_law_names, .func (PySem.W.fnOf "_law_names" "_law_names" (defArgs s_law_names) (defBody s_law_names) (defScope s_law_names) .none kV_law_names dc_law_names pm_law_names an_law_names cd_law_names ct_law_names), sl_law_names⟩)
    (l_law_part : K.lookup f_law_part = some ⟨oc_law_part, od_law_part, .func (PySem.W.fnOf "_law_part" "_law_part" (defArgs s_law_part) (defBody s_law_part) (defScope s_law_part) .none kV_law_part dc_law_part pm_law_part an_law_part cd_law_part ct_law_part), sl_law_part⟩)
    (l_law_bettered : K.lookup f_law_bettered = some ⟨oc_law_bettered, od_law_bettered, .func (PySem.W.fnOf "_law_bettered" "_law_bettered" (defArgs s_law_bettered) (defBody s_law_bettered) (defScope s_law_bettered) .none kV_law_bettered dc_law_bettered pm_law_bettered an_law_bettered cd_law_bettered ct_law_bettered), sl_law_bettered⟩)
    (l_is_name : K.lookup f_is_name = some ⟨oc_is_name, od_is_name, .func (PySem.W.fnOf "is_name" "is_name" (defArgs s_is_name) (defBody s_is_name) (defScope s_is_name) .none kV_is_name dc_is_name pm_is_name an_is_name cd_is_name ct_is_name), sl_is_name⟩)
    (l_need_name : K.lookup f_need_name = some ⟨oc_need_name, od_need_name, .func (PySem.W.fnOf "need_name" "need_name" (defArgs s_need_name) (defBody s_need_name) (defScope s_need_name) .none kV_need_name dc_need_name pm_need_name an_need_name cd_need_name ct_need_name), sl_need_name⟩)
    (l_Office_source : K.lookup f_Office_source = some ⟨oc_Office_source, od_Office_source, .func (PySem.W.fnOf "source" "Office.source" (defArgs s_Office_source) (defBody s_Office_source) (defScope s_Office_source) .none kV_Office_source dc_Office_source pm_Office_source an_Office_source cd_Office_source ct_Office_source), sl_Office_source⟩)
    (l_Office_goal : K.lookup f_Office_goal = some ⟨oc_Office_goal, od_Office_goal, .func (PySem.W.fnOf "goal" "Office.goal" (defArgs s_Office_goal) (defBody s_Office_goal) (defScope s_Office_goal) .none kV_Office_goal dc_Office_goal pm_Office_goal an_Office_goal cd_Office_goal ct_Office_goal), sl_Office_goal⟩)
    (l_Route_init : K.lookup f_Route_init = some ⟨oc_Route_init, od_Route_init, .func (PySem.W.fnOf "__init__" "Route.__init__" (defArgs s_Route_init) (defBody s_Route_init) (defScope s_Route_init) .none kV_Route_init dc_Route_init pm_Route_init an_Route_init cd_Route_init ct_Route_init), sl_Route_init⟩)
    (l_Route_add : K.lookup f_Route_add = some ⟨oc_Route_add, od_Route_add, .func (PySem.W.fnOf "__add__" "Route.__add__" (defArgs s_Route_add) (defBody s_Route_add) (defScope s_Route_add) .none kV_Route_add dc_Route_add pm_Route_add an_Route_add cd_Route_add ct_Route_add), sl_Route_add⟩)
    (l_is_integer : K.lookup f_is_integer = some ⟨oc_is_integer, od_is_integer, .func (PySem.W.fnOf "is_integer" "is_integer" (defArgs s_is_integer) (defBody s_is_integer) (defScope s_is_integer) .none kV_is_integer dc_is_integer pm_is_integer an_is_integer cd_is_integer ct_is_integer), sl_is_integer⟩)
    (l_is_rate : K.lookup f_is_rate = some ⟨oc_is_rate, od_is_rate, .func (PySem.W.fnOf "is_rate" "is_rate" (defArgs s_is_rate) (defBody s_is_rate) (defScope s_is_rate) .none kV_is_rate dc_is_rate pm_is_rate an_is_rate cd_is_rate ct_is_rate), sl_is_rate⟩)
    (l_need_integer : K.lookup f_need_integer = some ⟨oc_need_integer, od_need_integer, .func (PySem.W.fnOf "need_integer" "need_integer" (defArgs s_need_integer) (defBody s_need_integer) (defScope s_need_integer) .none kV_need_integer dc_need_integer pm_need_integer an_need_integer cd_need_integer ct_need_integer), sl_need_integer⟩)
    (l_Office_init : K.lookup f_Office_init = some ⟨oc_Office_init, od_Office_init, .func (PySem.W.fnOf "__init__" "Office.__init__" (defArgs s_Office_init) (defBody s_Office_init) (defScope s_Office_init) .none kV_Office_init dc_Office_init pm_Office_init an_Office_init cd_Office_init ct_Office_init), sl_Office_init⟩)
    (l_CappedOffice_init : K.lookup f_CappedOffice_init = some ⟨oc_CappedOffice_init, od_CappedOffice_init, .func (PySem.W.fnX "__init__" "CappedOffice.__init__" (defArgs s_CappedOffice_init) (defBody s_CappedOffice_init) (defScope s_CappedOffice_init) [("__class__", cc_CappedOffice_init)] .none kV_CappedOffice_init dc_CappedOffice_init pm_CappedOffice_init an_CappedOffice_init (.ref cda_CappedOffice_init) ct_CappedOffice_init), sl_CappedOffice_init⟩)
    (l_law_one : K.lookup f_law_one = some ⟨oc_law_one, od_law_one, .func (PySem.W.fnOf "_law_one" "_law_one" (defArgs s_law_one) (defBody s_law_one) (defScope s_law_one) .none kV_law_one dc_law_one pm_law_one an_law_one cd_law_one ct_law_one), sl_law_one⟩)
    (l_law_joined : K.lookup f_law_joined = some ⟨oc_law_joined, od_law_joined, .func (PySem.W.fnOf "_law_joined" "_law_joined" (defArgs s_law_joined) (defBody s_law_joined) (defScope s_law_joined) .none kV_law_joined dc_law_joined pm_law_joined an_law_joined cd_law_joined ct_law_joined), sl_law_joined⟩)
    (l_Route_end : K.lookup f_Route_end = some ⟨oc_Route_end, od_Route_end, .func (PySem.W.fnOf "end" "Route.end" (defArgs s_Route_end) (defBody s_Route_end) (defScope s_Route_end) .none kV_Route_end dc_Route_end pm_Route_end an_Route_end cd_Route_end ct_Route_end), sl_Route_end⟩)
    (l_Route_start : K.lookup f_Route_start = some ⟨oc_Route_start, od_Route_start, .func (PySem.W.fnOf "start" "Route.start" (defArgs s_Route_start) (defBody s_Route_start) (defScope s_Route_start) .none kV_Route_start dc_Route_start pm_Route_start an_Route_start cd_Route_start ct_Route_start), sl_Route_start⟩)
    (l_Route_offices : K.lookup f_Route_offices = some ⟨oc_Route_offices, od_Route_offices, .func (PySem.W.fnOf "offices" "Route.offices" (defArgs s_Route_offices) (defBody s_Route_offices) (defScope s_Route_offices) .none kV_Route_offices dc_Route_offices pm_Route_offices an_Route_offices cd_Route_offices ct_Route_offices), sl_Route_offices⟩)
    (l_CappedOffice_most : K.lookup f_CappedOffice_most = some ⟨oc_CappedOffice_most, od_CappedOffice_most, .func (PySem.W.fnOf "most" "CappedOffice.most" (defArgs s_CappedOffice_most) (defBody s_CappedOffice_most) (defScope s_CappedOffice_most) .none kV_CappedOffice_most dc_CappedOffice_most pm_CappedOffice_most an_CappedOffice_most cd_CappedOffice_most ct_CappedOffice_most), sl_CappedOffice_most⟩)
    (l_Office_most : K.lookup f_Office_most = some ⟨oc_Office_most, od_Office_most, .func (PySem.W.fnOf "most" "Office.most" (defArgs s_Office_most) (defBody s_Office_most) (defScope s_Office_most) .none kV_Office_most dc_Office_most pm_Office_most an_Office_most cd_Office_most ct_Office_most), sl_Office_most⟩)
    (l_Route_len : K.lookup f_Route_len = some ⟨oc_Route_len, od_Route_len, .func (PySem.W.fnOf "__len__" "Route.__len__" (defArgs s_Route_len) (defBody s_Route_len) (defScope s_Route_len) .none kV_Route_len dc_Route_len pm_Route_len an_Route_len cd_Route_len ct_Route_len), sl_Route_len⟩)
    (l_need_alike : K.lookup f_need_alike = some ⟨oc_need_alike, od_need_alike, .func (PySem.W.fnOf "need_alike" "need_alike" (defArgs s_need_alike) (defBody s_need_alike) (defScope s_need_alike) .none kV_need_alike dc_need_alike pm_need_alike an_need_alike cd_need_alike ct_need_alike), sl_need_alike⟩)
    (l_Office_rate : K.lookup f_Office_rate = some ⟨oc_Office_rate, od_Office_rate, .func (PySem.W.fnOf "rate" "Office.rate" (defArgs s_Office_rate) (defBody s_Office_rate) (defScope s_Office_rate) .none kV_Office_rate dc_Office_rate pm_Office_rate an_Office_rate cd_Office_rate ct_Office_rate), sl_Office_rate⟩)
    (l_reduced : K.lookup f_reduced = some ⟨oc_reduced, od_reduced, .func (PySem.W.fnOf "reduced" "reduced" (defArgs s_reduced) (defBody s_reduced) (defScope s_reduced) .none kV_reduced dc_reduced pm_reduced an_reduced cd_reduced ct_reduced), sl_reduced⟩)
    (l_times : K.lookup f_times = some ⟨oc_times, od_times, .func (PySem.W.fnOf "times" "times" (defArgs s_times) (defBody s_times) (defScope s_times) .none kV_times dc_times pm_times an_times cd_times ct_times), sl_times⟩)
    (l_Route_rate : K.lookup f_Route_rate = some ⟨oc_Route_rate, od_Route_rate, .func (PySem.W.fnOf "rate" "Route.rate" (defArgs s_Route_rate) (defBody s_Route_rate) (defScope s_Route_rate) .none kV_Route_rate dc_Route_rate pm_Route_rate an_Route_rate cd_Route_rate ct_Route_rate), sl_Route_rate⟩)
    (l_Office_least : K.lookup f_Office_least = some ⟨oc_Office_least, od_Office_least, .func (PySem.W.fnOf "least" "Office.least" (defArgs s_Office_least) (defBody s_Office_least) (defScope s_Office_least) .none kV_Office_least dc_Office_least pm_Office_least an_Office_least cd_Office_least ct_Office_least), sl_Office_least⟩)
    (l_Office_fee : K.lookup f_Office_fee = some ⟨oc_Office_fee, od_Office_fee, .func (PySem.W.fnOf "fee" "Office.fee" (defArgs s_Office_fee) (defBody s_Office_fee) (defScope s_Office_fee) .none kV_Office_fee dc_Office_fee pm_Office_fee an_Office_fee cd_Office_fee ct_Office_fee), sl_Office_fee⟩)
    (l_regular_from : K.lookup f_regular_from = some ⟨oc_regular_from, od_regular_from, .func (PySem.W.fnOf "regular_from" "regular_from" (defArgs s_regular_from) (defBody s_regular_from) (defScope s_regular_from) .none kV_regular_from dc_regular_from pm_regular_from an_regular_from cd_regular_from ct_regular_from), sl_regular_from⟩)
    (l_common_multiple : K.lookup f_common_multiple = some ⟨oc_common_multiple, od_common_multiple, .func (PySem.W.fnOf "common_multiple" "common_multiple" (defArgs s_common_multiple) (defBody s_common_multiple) (defScope s_common_multiple) .none kV_common_multiple dc_common_multiple pm_common_multiple an_common_multiple cd_common_multiple ct_common_multiple), sl_common_multiple⟩)
    (l_product : K.lookup f_product = some ⟨oc_product, od_product, .func (PySem.W.fnOf "product" "product" (defArgs s_product) (defBody s_product) (defScope s_product) .none kV_product dc_product pm_product an_product cd_product ct_product), sl_product⟩)
    (l_divisor : K.lookup f_divisor = some ⟨oc_divisor, od_divisor, .func (PySem.W.fnOf "divisor" "divisor" (defArgs s_divisor) (defBody s_divisor) (defScope s_divisor) .none kV_divisor dc_divisor pm_divisor an_divisor cd_divisor ct_divisor), sl_divisor⟩)
    (l_Office_result : K.lookup f_Office_result = some ⟨oc_Office_result, od_Office_result, .func (PySem.W.fnOf "result" "Office.result" (defArgs s_Office_result) (defBody s_Office_result) (defScope s_Office_result) .none kV_Office_result dc_Office_result pm_Office_result an_Office_result cd_Office_result ct_Office_result), sl_Office_result⟩)
    (l_CappedOffice_result : K.lookup f_CappedOffice_result = some ⟨oc_CappedOffice_result, od_CappedOffice_result, .func (PySem.W.fnX "result" "CappedOffice.result" (defArgs s_CappedOffice_result) (defBody s_CappedOffice_result) (defScope s_CappedOffice_result) [("__class__", cc_CappedOffice_result)] .none kV_CappedOffice_result dc_CappedOffice_result pm_CappedOffice_result an_CappedOffice_result (.ref cda_CappedOffice_result) ct_CappedOffice_result), sl_CappedOffice_result⟩)
    (l_Route_result : K.lookup f_Route_result = some ⟨oc_Route_result, od_Route_result, .func (PySem.W.fnOf "result" "Route.result" (defArgs s_Route_result) (defBody s_Route_result) (defScope s_Route_result) .none kV_Route_result dc_Route_result pm_Route_result an_Route_result cd_Route_result ct_Route_result), sl_Route_result⟩)
    (l_is_worse : K.lookup f_is_worse = some ⟨oc_is_worse, od_is_worse, .func (PySem.W.fnOf "is_worse" "is_worse" (defArgs s_is_worse) (defBody s_is_worse) (defScope s_is_worse) .none kV_is_worse dc_is_worse pm_is_worse an_is_worse cd_is_worse ct_is_worse), sl_is_worse⟩)
    (l_rise : K.lookup f_rise = some ⟨oc_rise, od_rise, .func (PySem.W.fnOf "rise" "rise" (defArgs s_rise) (defBody s_rise) (defScope s_rise) .none kV_rise dc_rise pm_rise an_rise cd_rise ct_rise), sl_rise⟩)
    (l_first_worse : K.lookup f_first_worse = some ⟨oc_first_worse, od_first_worse, .func (PySem.W.fnOf "first_worse" "first_worse" (defArgs s_first_worse) (defBody s_first_worse) (defScope s_first_worse) .none kV_first_worse dc_first_worse pm_first_worse an_first_worse cd_first_worse ct_first_worse), sl_first_worse⟩)
    (l_relation : K.lookup f_relation = some ⟨oc_relation, od_relation, .func (PySem.W.fnOf "relation" "relation" (defArgs s_relation) (defBody s_relation) (defScope s_relation) .none kV_relation dc_relation pm_relation an_relation cd_relation ct_relation), sl_relation⟩)
    (l_law : K.lookup f_law = some ⟨oc_law, od_law, .func (PySem.W.fnOf "law" "law" (defArgs s_law) (defBody s_law) (defScope s_law) .none kV_law dc_law pm_law an_law cd_law ct_law), sl_law⟩)
    (e_CappedOffice_init : K.lookup cc_CappedOffice_init = some ⟨oce_CappedOffice_init, ode_CappedOffice_init, .cell (some (.ref C_CappedOffice)), sle_CappedOffice_init⟩)
    (g_CappedOffice_init : K.lookup cda_CappedOffice_init = some ⟨ocg_CappedOffice_init, odg_CappedOffice_init, .fields vsg_CappedOffice_init, slg_CappedOffice_init⟩)
    (e_CappedOffice_result : K.lookup cc_CappedOffice_result = some ⟨oce_CappedOffice_result, ode_CappedOffice_result, .cell (some (.ref C_CappedOffice)), sle_CappedOffice_result⟩)
    (g_CappedOffice_result : K.lookup cda_CappedOffice_result = some ⟨ocg_CappedOffice_result, odg_CappedOffice_result, .fields vsg_CappedOffice_result, slg_CappedOffice_result⟩)
    (z_list : PySem.W.nsIn K mainGlobals "list" = some none)
    (c_law_pen : PySem.W.codeIn K cd_law_pen "_law_pen" = true)
    (k_law_pen : PySem.W.keepIn K (.ref f_law_pen) = true)
    (z_len : PySem.W.nsIn K mainGlobals "len" = some none)
    (z_min : PySem.W.nsIn K mainGlobals "min" = some none)
    (z_range : PySem.W.nsIn K mainGlobals "range" = some none)
    (z_int : PySem.W.nsIn K mainGlobals "int" = some none)
    (z_abs : PySem.W.nsIn K mainGlobals "abs" = some none)
    (c_law_draw : PySem.W.codeIn K cd_law_draw "_law_draw" = true)
    (k_law_draw : PySem.W.keepIn K (.ref f_law_draw) = true)
    (c_law_pick : PySem.W.codeIn K cd_law_pick "_law_pick" = true)
    (k_law_pick : PySem.W.keepIn K (.ref f_law_pick) = true)
    (c_law_names : PySem.W.codeIn K cd_law_names "_law_names" = true)
    (k_law_names : PySem.W.keepIn K (.ref f_law_names) = true)
    (c_law_part : PySem.W.codeIn K cd_law_part "_law_part" = true)
    (k_law_part : PySem.W.keepIn K (.ref f_law_part) = true)
    (c_law_bettered : PySem.W.codeIn K cd_law_bettered "_law_bettered" = true)
    (k_law_bettered : PySem.W.keepIn K (.ref f_law_bettered) = true)
    (gs_ALPHABET : PySem.W.nsIn K mainGlobals "ALPHABET" = some (some (.str "abcdefghijklmnopqrstuvwxyz" tg_ALPHABET)))
    (z_all : PySem.W.nsIn K mainGlobals "all" = some none)
    (gi_LETTERS : PySem.W.nsIn K mainGlobals "LETTERS" = some (some (.int 8 tg_LETTERS)))
    (z_isinstance : PySem.W.nsIn K mainGlobals "isinstance" = some none)
    (z_str : PySem.W.nsIn K mainGlobals "str" = some none)
    (c_is_name : PySem.W.codeIn K cd_is_name "is_name" = true)
    (k_is_name : PySem.W.keepIn K (.ref f_is_name) = true)
    (c_need_name : PySem.W.codeIn K cd_need_name "need_name" = true)
    (k_need_name : PySem.W.keepIn K (.ref f_need_name) = true)
    (kb_Office_NoneType : PySem.W.kitOne K (.type "NoneType") (.ref C_Office) = some false)
    (kb_Office_bool : PySem.W.kitOne K (.type "bool") (.ref C_Office) = some false)
    (kb_Office_int : PySem.W.kitOne K (.type "int") (.ref C_Office) = some false)
    (kb_Office_str : PySem.W.kitOne K (.type "str") (.ref C_Office) = some false)
    (kb_Office_tuple : PySem.W.kitOne K (.type "tuple") (.ref C_Office) = some false)
    (kb_Office_list : PySem.W.kitOne K (.type "list") (.ref C_Office) = some false)
    (kb_Office_dict : PySem.W.kitOne K (.type "dict") (.ref C_Office) = some false)
    (cg_Route : PySem.W.plainGet K C_Route Str.empty = true)
    (ch_Route : PySem.W.hasDictIn K C_Route = true)
    (co_Route : PySem.W.plainOver K C_Route = true)
    (cs_Route : PySem.W.findIn K (.ref C_Route) "__setattr__" = some (some (.builtin "object.__setattr__")))
    (ia_Route : PySem.W.findIn K (.ref C_Route) "__class__" = some (some (.builtin "object.__class__")))
    (iz_hn : PySem.W.specialIn K (.builtin "object.__class__") "__get__" = some (some (.builtin "getset_descriptor.__get__")))
    (iz_htk : PySem.W.takesIn K (.builtin "object.__class__") = some true)
    (io_Route : PySem.W.mroIn K C_Route (.type "object") = some true)
    (kt_Route_Route : PySem.W.kitOne K (.ref C_Route) (.ref C_Route) = some true)
    (kt_Route_Office : PySem.W.kitOne K (.ref C_Route) (.ref C_Office) = some false)
    (cg_CappedOffice : PySem.W.plainGet K C_CappedOffice Str.empty = true)
    (ch_CappedOffice : PySem.W.hasDictIn K C_CappedOffice = true)
    (co_CappedOffice : PySem.W.plainOver K C_CappedOffice = true)
    (cs_CappedOffice : PySem.W.findIn K (.ref C_CappedOffice) "__setattr__" = some (some (.builtin "object.__setattr__")))
    (ia_CappedOffice : PySem.W.findIn K (.ref C_CappedOffice) "__class__" = some (some (.builtin "object.__class__")))
    (io_CappedOffice : PySem.W.mroIn K C_CappedOffice (.type "object") = some true)
    (kt_CappedOffice_CappedOffice : PySem.W.kitOne K (.ref C_CappedOffice) (.ref C_CappedOffice) = some true)
    (kt_CappedOffice_Office : PySem.W.kitOne K (.ref C_CappedOffice) (.ref C_Office) = some true)
    (cg_Office : PySem.W.plainGet K C_Office Str.empty = true)
    (ch_Office : PySem.W.hasDictIn K C_Office = true)
    (co_Office : PySem.W.plainOver K C_Office = true)
    (cs_Office : PySem.W.findIn K (.ref C_Office) "__setattr__" = some (some (.builtin "object.__setattr__")))
    (ia_Office : PySem.W.findIn K (.ref C_Office) "__class__" = some (some (.builtin "object.__class__")))
    (io_Office : PySem.W.mroIn K C_Office (.type "object") = some true)
    (kt_Office_Office : PySem.W.kitOne K (.ref C_Office) (.ref C_Office) = some true)
    (z_enumerate : PySem.W.nsIn K mainGlobals "enumerate" = some none)
    (na_CappedOffice_own_ends : PySem.W.findIn K (.ref C_CappedOffice) "own_ends" = some none)
    (na_Office_own_ends : PySem.W.findIn K (.ref C_Office) "own_ends" = some none)
    (pg_Office_source : PySem.W.specialIn K (.ref p_Office_source) "__get__" = some (some (.builtin "property.__get__")))
    (pt_Office_source : PySem.W.takesIn K (.ref p_Office_source) = some true)
    (c_Office_source : PySem.W.codeIn K cd_Office_source "Office.source" = true)
    (k_Office_source : PySem.W.keepIn K (.ref f_Office_source) = true)
    (pg_Office_goal : PySem.W.specialIn K (.ref p_Office_goal) "__get__" = some (some (.builtin "property.__get__")))
    (pt_Office_goal : PySem.W.takesIn K (.ref p_Office_goal) = some true)
    (c_Office_goal : PySem.W.codeIn K cd_Office_goal "Office.goal" = true)
    (k_Office_goal : PySem.W.keepIn K (.ref f_Office_goal) = true)
    (ck_Route_LENGTH : PySem.W.findIn K (.ref C_Route) "LENGTH" = some (some (.int 1000 tk_Route_LENGTH)))
    (na_Route_own_start : PySem.W.findIn K (.ref C_Route) "own_start" = some none)
    (na_Route_own_end : PySem.W.findIn K (.ref C_Route) "own_end" = some none)
    (na_Route_own_offices : PySem.W.findIn K (.ref C_Route) "own_offices" = some none)
    (c_Route_init : PySem.W.codeIn K cd_Route_init "Route.__init__" = true)
    (k_Route_init : PySem.W.keepIn K (.ref f_Route_init) = true)
    (mm_Route : PySem.W.makesIn K C_Route = true)
    (mf_Route_init : PySem.W.isFn K (.ref f_Route_init) = true)
    (mc_Route : PySem.W.keepIn K (.ref C_Route) = true)
    (c_Route_add : PySem.W.codeIn K cd_Route_add "Route.__add__" = true)
    (k_Route_add : PySem.W.keepIn K (.ref f_Route_add) = true)
    (sf_Route : PySem.W.selfFirst K C_Route = true)
    (mf_Route_add : PySem.W.isFn K (.ref f_Route_add) = true)
    (h_eq_Route_CappedOffice : (Value.ref C_Route == Value.ref C_CappedOffice) = false)
    (cd_CappedOffice : PySem.W.clsIn K C_CappedOffice = some cdd_CappedOffice)
    (h_mro_CappedOffice : cdd_CappedOffice.mro = [.ref C_CappedOffice, .ref C_Office, .type "object"])
    (nl_add_object : PySem.W.findIn K (.type "object") (PySem.dunder "add") = some none)
    (nr2_add_object : PySem.W.findIn K (.type "object") (dunderR "add") = some none)
    (nl_add_Office : PySem.W.findIn K (.ref C_Office) (PySem.dunder "add") = some none)
    (nr2_add_Office : PySem.W.findIn K (.ref C_Office) (dunderR "add") = some none)
    (nl_add_CappedOffice : PySem.W.findIn K (.ref C_CappedOffice) (PySem.dunder "add") = some none)
    (nr2_add_CappedOffice : PySem.W.findIn K (.ref C_CappedOffice) (dunderR "add") = some none)
    (h_eq_Route_Office : (Value.ref C_Route == Value.ref C_Office) = false)
    (cd_Office : PySem.W.clsIn K C_Office = some cdd_Office)
    (h_mro_Office : cdd_Office.mro = [.ref C_Office, .type "object"])
    (z_tuple : PySem.W.nsIn K mainGlobals "tuple" = some none)
    (z_bool : PySem.W.nsIn K mainGlobals "bool" = some none)
    (c_is_integer : PySem.W.codeIn K cd_is_integer "is_integer" = true)
    (k_is_integer : PySem.W.keepIn K (.ref f_is_integer) = true)
    (cr_Office : PySem.W.readsIn K C_Office (.type "type") = true)
    (cq_Office : PySem.W.specialIn K (.ref C_Office) "__getattribute__" = some (some (.builtin "type.__getattribute__")))
    (cv_Office_RATE : PySem.W.findCls K (.ref C_Office) (.type "type") "RATE" = some (.val (.int 9 tv_Office_RATE)))
    (c_is_rate : PySem.W.codeIn K cd_is_rate "is_rate" = true)
    (k_is_rate : PySem.W.keepIn K (.ref f_is_rate) = true)
    (c_need_integer : PySem.W.codeIn K cd_need_integer "need_integer" = true)
    (k_need_integer : PySem.W.keepIn K (.ref f_need_integer) = true)
    (ck_CappedOffice_FEE : PySem.W.findIn K (.ref C_CappedOffice) "FEE" = some (some (.int 20 tk_CappedOffice_FEE)))
    (ck_Office_FEE : PySem.W.findIn K (.ref C_Office) "FEE" = some (some (.int 20 tk_Office_FEE)))
    (ck_CappedOffice_LEAST : PySem.W.findIn K (.ref C_CappedOffice) "LEAST" = some (some (.int 1000 tk_CappedOffice_LEAST)))
    (ck_Office_LEAST : PySem.W.findIn K (.ref C_Office) "LEAST" = some (some (.int 1000 tk_Office_LEAST)))
    (na_CappedOffice_name : PySem.W.findIn K (.ref C_CappedOffice) "name" = some none)
    (na_Office_name : PySem.W.findIn K (.ref C_Office) "name" = some none)
    (na_CappedOffice_own_rate : PySem.W.findIn K (.ref C_CappedOffice) "own_rate" = some none)
    (na_Office_own_rate : PySem.W.findIn K (.ref C_Office) "own_rate" = some none)
    (na_CappedOffice_own_fee : PySem.W.findIn K (.ref C_CappedOffice) "own_fee" = some none)
    (na_Office_own_fee : PySem.W.findIn K (.ref C_Office) "own_fee" = some none)
    (na_CappedOffice_own_least : PySem.W.findIn K (.ref C_CappedOffice) "own_least" = some none)
    (na_Office_own_least : PySem.W.findIn K (.ref C_Office) "own_least" = some none)
    (c_Office_init : PySem.W.codeIn K cd_Office_init "Office.__init__" = true)
    (k_Office_init : PySem.W.keepIn K (.ref f_Office_init) = true)
    (mm_Office : PySem.W.makesIn K C_Office = true)
    (mf_Office_init : PySem.W.isFn K (.ref f_Office_init) = true)
    (mc_Office : PySem.W.keepIn K (.ref C_Office) = true)
    (sr_CappedOffice_CappedOffice : PySem.W.mroIn K C_CappedOffice (.ref C_CappedOffice) = some true)
    (sa_CappedOffice_CappedOffice_init : PySem.W.ks_superIn K C_CappedOffice C_CappedOffice "__init__" = some (some (.ref f_Office_init)))
    (st_Office_init : PySem.W.typeIn K (.ref f_Office_init) = some (.type "function"))
    (fi_Office_init : PySem.W.fnIn K f_Office_init = true)
    (zo_any : PySem.W.nsIn K cStatics "thirdparty.any" = some none)
    (ck_CappedOffice_MOST : PySem.W.findIn K (.ref C_CappedOffice) "MOST" = some (some (.int 1000000 tk_CappedOffice_MOST)))
    (na_CappedOffice_own_most : PySem.W.findIn K (.ref C_CappedOffice) "own_most" = some none)
    (c_CappedOffice_init : PySem.W.codeIn K (.ref cda_CappedOffice_init) "CappedOffice.__init__" = true)
    (h_CappedOffice_init : vsg_CappedOffice_init[2]? = some (.str fi_CappedOffice_init tf_CappedOffice_init))
    (i_CappedOffice_init : ((l.prog.main.file : Str) == fi_CappedOffice_init) = true)
    (z_super : PySem.W.nsIn K mainGlobals "super" = some none)
    (zt_super : (l.prog.main.scope.names.lookup ("super" : Str)).isSome = false)
    (mm_CappedOffice : PySem.W.makesIn K C_CappedOffice = true)
    (mf_CappedOffice_init : PySem.W.isFn K (.ref f_CappedOffice_init) = true)
    (mc_CappedOffice : PySem.W.keepIn K (.ref C_CappedOffice) = true)
    (c_law_one : PySem.W.codeIn K cd_law_one "_law_one" = true)
    (k_law_one : PySem.W.keepIn K (.ref f_law_one) = true)
    (c_law_joined : PySem.W.codeIn K cd_law_joined "_law_joined" = true)
    (k_law_joined : PySem.W.keepIn K (.ref f_law_joined) = true)
    (pg_Route_end : PySem.W.specialIn K (.ref p_Route_end) "__get__" = some (some (.builtin "property.__get__")))
    (pt_Route_end : PySem.W.takesIn K (.ref p_Route_end) = some true)
    (c_Route_end : PySem.W.codeIn K cd_Route_end "Route.end" = true)
    (k_Route_end : PySem.W.keepIn K (.ref f_Route_end) = true)
    (pg_Route_start : PySem.W.specialIn K (.ref p_Route_start) "__get__" = some (some (.builtin "property.__get__")))
    (pt_Route_start : PySem.W.takesIn K (.ref p_Route_start) = some true)
    (c_Route_start : PySem.W.codeIn K cd_Route_start "Route.start" = true)
    (k_Route_start : PySem.W.keepIn K (.ref f_Route_start) = true)
    (pg_Route_offices : PySem.W.specialIn K (.ref p_Route_offices) "__get__" = some (some (.builtin "property.__get__")))
    (pt_Route_offices : PySem.W.takesIn K (.ref p_Route_offices) = some true)
    (c_Route_offices : PySem.W.codeIn K cd_Route_offices "Route.offices" = true)
    (k_Route_offices : PySem.W.keepIn K (.ref f_Route_offices) = true)
    (pg_CappedOffice_most : PySem.W.specialIn K (.ref p_CappedOffice_most) "__get__" = some (some (.builtin "property.__get__")))
    (pt_CappedOffice_most : PySem.W.takesIn K (.ref p_CappedOffice_most) = some true)
    (c_CappedOffice_most : PySem.W.codeIn K cd_CappedOffice_most "CappedOffice.most" = true)
    (k_CappedOffice_most : PySem.W.keepIn K (.ref f_CappedOffice_most) = true)
    (pg_Office_most : PySem.W.specialIn K (.ref p_Office_most) "__get__" = some (some (.builtin "property.__get__")))
    (pt_Office_most : PySem.W.takesIn K (.ref p_Office_most) = some true)
    (c_Office_most : PySem.W.codeIn K cd_Office_most "Office.most" = true)
    (k_Office_most : PySem.W.keepIn K (.ref f_Office_most) = true)
    (mf_Route_len : PySem.W.isFn K (.ref f_Route_len) = true)
    (c_Route_len : PySem.W.codeIn K cd_Route_len "Route.__len__" = true)
    (k_Route_len : PySem.W.keepIn K (.ref f_Route_len) = true)
    (gi_LONGEST_ROUTE : PySem.W.nsIn K mainGlobals "LONGEST_ROUTE" = some (some (.int 2 tg_LONGEST_ROUTE)))
    (c_need_alike : PySem.W.codeIn K cd_need_alike "need_alike" = true)
    (k_need_alike : PySem.W.keepIn K (.ref f_need_alike) = true)
    (pg_Office_rate : PySem.W.specialIn K (.ref p_Office_rate) "__get__" = some (some (.builtin "property.__get__")))
    (pt_Office_rate : PySem.W.takesIn K (.ref p_Office_rate) = some true)
    (c_Office_rate : PySem.W.codeIn K cd_Office_rate "Office.rate" = true)
    (k_Office_rate : PySem.W.keepIn K (.ref f_Office_rate) = true)
    (c_reduced : PySem.W.codeIn K cd_reduced "reduced" = true)
    (k_reduced : PySem.W.keepIn K (.ref f_reduced) = true)
    (c_times : PySem.W.codeIn K cd_times "times" = true)
    (k_times : PySem.W.keepIn K (.ref f_times) = true)
    (pg_Route_rate : PySem.W.specialIn K (.ref p_Route_rate) "__get__" = some (some (.builtin "property.__get__")))
    (pt_Route_rate : PySem.W.takesIn K (.ref p_Route_rate) = some true)
    (c_Route_rate : PySem.W.codeIn K cd_Route_rate "Route.rate" = true)
    (k_Route_rate : PySem.W.keepIn K (.ref f_Route_rate) = true)
    (pg_Office_least : PySem.W.specialIn K (.ref p_Office_least) "__get__" = some (some (.builtin "property.__get__")))
    (pt_Office_least : PySem.W.takesIn K (.ref p_Office_least) = some true)
    (c_Office_least : PySem.W.codeIn K cd_Office_least "Office.least" = true)
    (k_Office_least : PySem.W.keepIn K (.ref f_Office_least) = true)
    (pg_Office_fee : PySem.W.specialIn K (.ref p_Office_fee) "__get__" = some (some (.builtin "property.__get__")))
    (pt_Office_fee : PySem.W.takesIn K (.ref p_Office_fee) = some true)
    (c_Office_fee : PySem.W.codeIn K cd_Office_fee "Office.fee" = true)
    (k_Office_fee : PySem.W.keepIn K (.ref f_Office_fee) = true)
    (z_max : PySem.W.nsIn K mainGlobals "max" = some none)
    (c_regular_from : PySem.W.codeIn K cd_regular_from "regular_from" = true)
    (k_regular_from : PySem.W.keepIn K (.ref f_regular_from) = true)
    (c_common_multiple : PySem.W.codeIn K cd_common_multiple "common_multiple" = true)
    (k_common_multiple : PySem.W.keepIn K (.ref f_common_multiple) = true)
    (c_product : PySem.W.codeIn K cd_product "product" = true)
    (k_product : PySem.W.keepIn K (.ref f_product) = true)
    (c_divisor : PySem.W.codeIn K cd_divisor "divisor" = true)
    (k_divisor : PySem.W.keepIn K (.ref f_divisor) = true)
    (sa_CappedOffice_CappedOffice_result : PySem.W.ks_superIn K C_CappedOffice C_CappedOffice "result" = some (some (.ref f_Office_result)))
    (st_Office_result : PySem.W.typeIn K (.ref f_Office_result) = some (.type "function"))
    (fi_Office_result : PySem.W.fnIn K f_Office_result = true)
    (c_Office_result : PySem.W.codeIn K cd_Office_result "Office.result" = true)
    (k_Office_result : PySem.W.keepIn K (.ref f_Office_result) = true)
    (mf_CappedOffice_result : PySem.W.isFn K (.ref f_CappedOffice_result) = true)
    (k_CappedOffice_result : PySem.W.keepIn K (.ref f_CappedOffice_result) = true)
    (c_CappedOffice_result : PySem.W.codeIn K (.ref cda_CappedOffice_result) "CappedOffice.result" = true)
    (h_CappedOffice_result : vsg_CappedOffice_result[2]? = some (.str fi_CappedOffice_result tf_CappedOffice_result))
    (i_CappedOffice_result : ((l.prog.main.file : Str) == fi_CappedOffice_result) = true)
    (mf_Office_result : PySem.W.isFn K (.ref f_Office_result) = true)
    (mf_Route_result : PySem.W.isFn K (.ref f_Route_result) = true)
    (k_Route_result : PySem.W.keepIn K (.ref f_Route_result) = true)
    (c_Route_result : PySem.W.codeIn K cd_Route_result "Route.result" = true)
    (c_is_worse : PySem.W.codeIn K cd_is_worse "is_worse" = true)
    (k_is_worse : PySem.W.keepIn K (.ref f_is_worse) = true)
    (c_rise : PySem.W.codeIn K cd_rise "rise" = true)
    (k_rise : PySem.W.keepIn K (.ref f_rise) = true)
    (c_first_worse : PySem.W.codeIn K cd_first_worse "first_worse" = true)
    (k_first_worse : PySem.W.keepIn K (.ref f_first_worse) = true)
    (c_relation : PySem.W.codeIn K cd_relation "relation" = true)
    (k_relation : PySem.W.keepIn K (.ref f_relation) = true)
    (c_law : PySem.W.codeIn K cd_law "law" = true)
    (k_law : PySem.W.keepIn K (.ref f_law) = true)
    : ∃ fd : FuncData, (∀ (s : Shared) (v : Value), BindsTo s fd ⟨[v], []⟩ [("_law_script", v)]) ∧ ∀ base : Heap, K.In base → base.Ns mainGlobals mg → FnG l.prog w K mg base (L2.CX l.prog w) 9 fa fd ["_law_script"] (spM K 1 m_law) := by
  have e := hfa.symm.trans (PySem.W.mg_of X G a_law)
  cases e
  have y_b_list : mg "list" = none := PySem.W.mg_none_of X G z_list
  have y_fn_law_pen : FnP K mg "_law_pen" s_law_pen ["_law_script"] := ⟨_, _, PySem.W.mg_of X G a_law_pen, (fun_mk (st := s_law_pen) l_law_pen c_law_pen k_law_pen), binds_of (Fun.kb (ps := ["_law_script"]) (n := 1) (ks := []) (fun_mk (st := s_law_pen) l_law_pen c_law_pen k_law_pen) fun _ _ _ _ _ _ us ws h1 h2 => match us, h1, ws, h2 with | [_], _, [], _ => rfl) rfl⟩
  have y_b_len : mg "len" = none := PySem.W.mg_none_of X G z_len
  have y_b_min : mg "min" = none := PySem.W.mg_none_of X G z_min
  have y_b_range : mg "range" = none := PySem.W.mg_none_of X G z_range
  have y_b_int : mg "int" = none := PySem.W.mg_none_of X G z_int
  have y_b_abs : mg "abs" = none := PySem.W.mg_none_of X G z_abs
  have y_fn_law_draw : FnP K mg "_law_draw" s_law_draw ["_law_pen_here", "_law_many"] := ⟨_, _, PySem.W.mg_of X G a_law_draw, (fun_mk (st := s_law_draw) l_law_draw c_law_draw k_law_draw), binds_of (Fun.kb (ps := ["_law_pen_here", "_law_many"]) (n := 2) (ks := []) (fun_mk (st := s_law_draw) l_law_draw c_law_draw k_law_draw) fun _ _ _ _ _ _ us ws h1 h2 => match us, h1, ws, h2 with | [_, _], _, [], _ => rfl) rfl⟩
  have y_fn_law_pick : FnP K mg "_law_pick" s_law_pick ["_law_pen_here", "_law_some"] := ⟨_, _, PySem.W.mg_of X G a_law_pick, (fun_mk (st := s_law_pick) l_law_pick c_law_pick k_law_pick), binds_of (Fun.kb (ps := ["_law_pen_here", "_law_some"]) (n := 2) (ks := []) (fun_mk (st := s_law_pick) l_law_pick c_law_pick k_law_pick) fun _ _ _ _ _ _ us ws h1 h2 => match us, h1, ws, h2 with | [_, _], _, [], _ => rfl) rfl⟩
  have y_fn_law_names : FnP K mg "_law_names" s_law_names ["_law_pen_here", "_law_many"] := ⟨_, _, PySem.W.mg_of X G a_law_names, (fun_mk (st := s_law_names) l_law_names c_law_names k_law_names), binds_of (Fun.kb (ps := ["_law_pen_here", "_law_many"]) (n := 2) (ks := []) (fun_mk (st := s_law_names) l_law_names c_law_names k_law_names) fun _ _ _ _ _ _ us ws h1 h2 => match us, h1, ws, h2 with | [_, _], _, [], _ => rfl) rfl⟩
  have y_fn_law_part : FnP K mg "_law_part" s_law_part ["_law_pen_here", "_law_label", "_law_source", "_law_goal", "_law_top"] := ⟨_, _, PySem.W.mg_of X G a_law_part, (fun_mk (st := s_law_part) l_law_part c_law_part k_law_part), binds_of (Fun.kb (ps := ["_law_pen_here", "_law_label", "_law_source", "_law_goal", "_law_top"]) (n := 5) (ks := []) (fun_mk (st := s_law_part) l_law_part c_law_part k_law_part) fun _ _ _ _ _ _ us ws h1 h2 => match us, h1, ws, h2 with | [_, _, _, _, _], _, [], _ => rfl) rfl⟩
  have y_fn_law_bettered : FnP K mg "_law_bettered" s_law_bettered ["_law_pen_here", "_law_one_here", "_law_label"] := ⟨_, _, PySem.W.mg_of X G a_law_bettered, (fun_mk (st := s_law_bettered) l_law_bettered c_law_bettered k_law_bettered), binds_of (Fun.kb (ps := ["_law_pen_here", "_law_one_here", "_law_label"]) (n := 3) (ks := []) (fun_mk (st := s_law_bettered) l_law_bettered c_law_bettered k_law_bettered) fun _ _ _ _ _ _ us ws h1 h2 => match us, h1, ws, h2 with | [_, _, _], _, [], _ => rfl) rfl⟩
  have y_gs_ALPHABET : StrP mg "ALPHABET" "abcdefghijklmnopqrstuvwxyz" := ⟨_, PySem.W.mg_of X G gs_ALPHABET⟩
  have y_b_all : mg "all" = none := PySem.W.mg_none_of X G z_all
  have y_gi_LETTERS : IntP mg "LETTERS" 8 := ⟨_, PySem.W.mg_of X G gi_LETTERS⟩
  have y_b_isinstance : mg "isinstance" = none := PySem.W.mg_none_of X G z_isinstance
  have y_b_str : mg "str" = none := PySem.W.mg_none_of X G z_str
  have y_fn_is_name : FnP K mg "is_name" s_is_name ["value"] := ⟨_, _, PySem.W.mg_of X G a_is_name, (fun_mk (st := s_is_name) l_is_name c_is_name k_is_name), binds_of (Fun.kb (ps := ["value"]) (n := 1) (ks := []) (fun_mk (st := s_is_name) l_is_name c_is_name k_is_name) fun _ _ _ _ _ _ us ws h1 h2 => match us, h1, ws, h2 with | [_], _, [], _ => rfl) rfl⟩
  have y_fn_need_name : FnP K mg "need_name" s_need_name ["value"] := ⟨_, _, PySem.W.mg_of X G a_need_name, (fun_mk (st := s_need_name) l_need_name c_need_name k_need_name), binds_of (Fun.kb (ps := ["value"]) (n := 1) (ks := []) (fun_mk (st := s_need_name) l_need_name c_need_name k_need_name) fun _ _ _ _ _ _ us ws h1 h2 => match us, h1, ws, h2 with | [_], _, [], _ => rfl) rfl⟩
  have y_is_Office : ∃ D, mg "Office" = some (.ref D) ∧ IsoTab K D [("Office", true), ("CappedOffice", true), ("Route", false)] := ⟨_, PySem.W.mg_of X G a_Office, (isoC a_Office ⟨⟨cg_Office, ch_Office, co_Office, cs_Office⟩, ia_Office, iz_hn, iz_htk, io_Office, kt_Office_Office⟩ kt_Office_Office (isoC a_CappedOffice ⟨⟨cg_CappedOffice, ch_CappedOffice, co_CappedOffice, cs_CappedOffice⟩, ia_CappedOffice, iz_hn, iz_htk, io_CappedOffice, kt_CappedOffice_CappedOffice⟩ kt_CappedOffice_Office (isoC a_Route ⟨⟨cg_Route, ch_Route, co_Route, cs_Route⟩, ia_Route, iz_hn, iz_htk, io_Route, kt_Route_Route⟩ kt_Route_Office (iso0 ⟨kb_Office_NoneType, kb_Office_bool, kb_Office_int, kb_Office_str, kb_Office_tuple, kb_Office_list, kb_Office_dict⟩))))⟩
  have y_b_enumerate : mg "enumerate" = none := PySem.W.mg_none_of X G z_enumerate
  have y_fo_own_ends : FldOk K "own_ends" ["Office", "CappedOffice"] := (fldC a_Office ⟨cg_Office, ch_Office, co_Office, cs_Office⟩ na_Office_own_ends (fldC a_CappedOffice ⟨cg_CappedOffice, ch_CappedOffice, co_CappedOffice, cs_CappedOffice⟩ na_CappedOffice_own_ends fld0))
  have y_pp_CappedOffice_source : PrpP K "CappedOffice" "source" "Office.source" s_Office_source := ⟨_, _, _, _, a_CappedOffice, ⟨cg_CappedOffice, ch_CappedOffice, co_CappedOffice, cs_CappedOffice⟩, ⟨m_CappedOffice_source, pg_Office_source, pt_Office_source, ⟨_, pr_Office_source⟩⟩, (fun_mk (st := s_Office_source) l_Office_source c_Office_source k_Office_source), (Fun.kb (ps := ["self"]) (n := 1) (ks := []) (fun_mk (st := s_Office_source) l_Office_source c_Office_source k_Office_source) fun _ _ _ _ _ _ us ws h1 h2 => match us, h1, ws, h2 with | [_], _, [], _ => rfl)⟩
  have y_pp_Office_source : PrpP K "Office" "source" "Office.source" s_Office_source := ⟨_, _, _, _, a_Office, ⟨cg_Office, ch_Office, co_Office, cs_Office⟩, ⟨m_Office_source, pg_Office_source, pt_Office_source, ⟨_, pr_Office_source⟩⟩, (fun_mk (st := s_Office_source) l_Office_source c_Office_source k_Office_source), (Fun.kb (ps := ["self"]) (n := 1) (ks := []) (fun_mk (st := s_Office_source) l_Office_source c_Office_source k_Office_source) fun _ _ _ _ _ _ us ws h1 h2 => match us, h1, ws, h2 with | [_], _, [], _ => rfl)⟩
  have y_pp_CappedOffice_goal : PrpP K "CappedOffice" "goal" "Office.goal" s_Office_goal := ⟨_, _, _, _, a_CappedOffice, ⟨cg_CappedOffice, ch_CappedOffice, co_CappedOffice, cs_CappedOffice⟩, ⟨m_CappedOffice_goal, pg_Office_goal, pt_Office_goal, ⟨_, pr_Office_goal⟩⟩, (fun_mk (st := s_Office_goal) l_Office_goal c_Office_goal k_Office_goal), (Fun.kb (ps := ["self"]) (n := 1) (ks := []) (fun_mk (st := s_Office_goal) l_Office_goal c_Office_goal k_Office_goal) fun _ _ _ _ _ _ us ws h1 h2 => match us, h1, ws, h2 with | [_], _, [], _ => rfl)⟩
  have y_pp_Office_goal : PrpP K "Office" "goal" "Office.goal" s_Office_goal := ⟨_, _, _, _, a_Office, ⟨cg_Office, ch_Office, co_Office, cs_Office⟩, ⟨m_Office_goal, pg_Office_goal, pt_Office_goal, ⟨_, pr_Office_goal⟩⟩, (fun_mk (st := s_Office_goal) l_Office_goal c_Office_goal k_Office_goal), (Fun.kb (ps := ["self"]) (n := 1) (ks := []) (fun_mk (st := s_Office_goal) l_Office_goal c_Office_goal k_Office_goal) fun _ _ _ _ _ _ us ws h1 h2 => match us, h1, ws, h2 with | [_], _, [], _ => rfl)⟩
  have y_co_LENGTH : ConOk K "LENGTH" 1000 ["Route"] := (conC a_Route ⟨cg_Route, ch_Route, co_Route, cs_Route⟩ ⟨ck_Route_LENGTH, ⟨_, rfl⟩, rfl, by decide⟩ con0)
  have y_fo_own_start : FldOk K "own_start" ["Route"] := (fldC a_Route ⟨cg_Route, ch_Route, co_Route, cs_Route⟩ na_Route_own_start fld0)
  have y_fo_own_end : FldOk K "own_end" ["Route"] := (fldC a_Route ⟨cg_Route, ch_Route, co_Route, cs_Route⟩ na_Route_own_end fld0)
  have y_fo_own_offices : FldOk K "own_offices" ["Route"] := (fldC a_Route ⟨cg_Route, ch_Route, co_Route, cs_Route⟩ na_Route_own_offices fld0)
  have y_mv_Route : MkVP K mg "Route" "Route.__init__" s_Route_init ["self", "start"] "offices" := ⟨_, _, _, a_Route, PySem.W.mg_of X G a_Route, ⟨mm_Route, mi_Route, mf_Route_init, mc_Route⟩, (fun_mk (st := s_Route_init) l_Route_init c_Route_init k_Route_init), (starB2 (fun _ _ => rfl) (fun _ _ _ _ => rfl))⟩
  have y_bo_Route_add : BopP K "Route" "add" "__add__" "Route.__add__" s_Route_add ["self", "other"] := ⟨_, _, _, a_Route, ⟨⟨cg_Route, ch_Route, co_Route, cs_Route⟩, ia_Route, iz_hn, iz_htk, io_Route, kt_Route_Route⟩, ⟨sf_Route, bm_Route_add, mf_Route_add⟩, (fun_mk (st := s_Route_add) l_Route_add c_Route_add k_Route_add), (Fun.kb (ps := ["self", "other"]) (n := 2) (ks := []) (fun_mk (st := s_Route_add) l_Route_add c_Route_add k_Route_add) fun _ _ _ _ _ _ us ws h1 h2 => match us, h1, ws, h2 with | [_, _], _, [], _ => rfl)⟩
  have y_ot_Route_CappedOffice_add : OthP K "Route" "CappedOffice" "add" := ⟨_, _, a_Route, a_CappedOffice, ⟨⟨cg_CappedOffice, ch_CappedOffice, co_CappedOffice, cs_CappedOffice⟩, ia_CappedOffice, iz_hn, iz_htk, io_CappedOffice, kt_CappedOffice_CappedOffice⟩, h_eq_Route_CappedOffice, noFill2 cd_CappedOffice h_mro_CappedOffice (nfC nl_add_CappedOffice nr2_add_CappedOffice (nfC nl_add_Office nr2_add_Office (nfC nl_add_object nr2_add_object nf0)))⟩
  have y_ot_Route_Office_add : OthP K "Route" "Office" "add" := ⟨_, _, a_Route, a_Office, ⟨⟨cg_Office, ch_Office, co_Office, cs_Office⟩, ia_Office, iz_hn, iz_htk, io_Office, kt_Office_Office⟩, h_eq_Route_Office, noFill2 cd_Office h_mro_Office (nfC nl_add_Office nr2_add_Office (nfC nl_add_object nr2_add_object nf0))⟩
  have y_bb_Route_add : BopB K "Route" "add" [] := ⟨_, a_Route, bf0⟩
  have y_b_tuple : mg "tuple" = none := PySem.W.mg_none_of X G z_tuple
  have y_b_bool : mg "bool" = none := PySem.W.mg_none_of X G z_bool
  have y_fk_is_integer_1_least_most : FnKP K mg "is_integer" s_is_integer ["value", "least", "most"] 1 ["least", "most"] := ⟨_, _, PySem.W.mg_of X G a_is_integer, (fun_mk (st := s_is_integer) l_is_integer c_is_integer k_is_integer), (Fun.kb (ps := ["value", "least", "most"]) (n := 1) (ks := ["least", "most"]) (fun_mk (st := s_is_integer) l_is_integer c_is_integer k_is_integer) fun _ _ _ _ _ _ us ws h1 h2 => match us, h1, ws, h2 with | [_], _, [_, _], _ => rfl)⟩
  have y_ca_Office_RATE : CatP K mg "Office" "RATE" 9 := ⟨_, _, _, PySem.W.mg_of X G a_Office, ⟨cr_Office, cq_Office⟩, ⟨cv_Office_RATE, ⟨_, rfl⟩⟩⟩
  have y_fn_is_rate : FnP K mg "is_rate" s_is_rate ["value"] := ⟨_, _, PySem.W.mg_of X G a_is_rate, (fun_mk (st := s_is_rate) l_is_rate c_is_rate k_is_rate), binds_of (Fun.kb (ps := ["value"]) (n := 1) (ks := []) (fun_mk (st := s_is_rate) l_is_rate c_is_rate k_is_rate) fun _ _ _ _ _ _ us ws h1 h2 => match us, h1, ws, h2 with | [_], _, [], _ => rfl) rfl⟩
  have y_fk_need_integer_1_least_most : FnKP K mg "need_integer" s_need_integer ["value", "least", "most"] 1 ["least", "most"] := ⟨_, _, PySem.W.mg_of X G a_need_integer, (fun_mk (st := s_need_integer) l_need_integer c_need_integer k_need_integer), (Fun.kb (ps := ["value", "least", "most"]) (n := 1) (ks := ["least", "most"]) (fun_mk (st := s_need_integer) l_need_integer c_need_integer k_need_integer) fun _ _ _ _ _ _ us ws h1 h2 => match us, h1, ws, h2 with | [_], _, [_, _], _ => rfl)⟩
  have y_co_FEE : ConOk K "FEE" 20 ["Office", "CappedOffice"] := (conC a_Office ⟨cg_Office, ch_Office, co_Office, cs_Office⟩ ⟨ck_Office_FEE, ⟨_, rfl⟩, rfl, by decide⟩ (conC a_CappedOffice ⟨cg_CappedOffice, ch_CappedOffice, co_CappedOffice, cs_CappedOffice⟩ ⟨ck_CappedOffice_FEE, ⟨_, rfl⟩, rfl, by decide⟩ con0))
  have y_co_LEAST : ConOk K "LEAST" 1000 ["Office", "CappedOffice"] := (conC a_Office ⟨cg_Office, ch_Office, co_Office, cs_Office⟩ ⟨ck_Office_LEAST, ⟨_, rfl⟩, rfl, by decide⟩ (conC a_CappedOffice ⟨cg_CappedOffice, ch_CappedOffice, co_CappedOffice, cs_CappedOffice⟩ ⟨ck_CappedOffice_LEAST, ⟨_, rfl⟩, rfl, by decide⟩ con0))
  have y_fo_name : FldOk K "name" ["Office", "CappedOffice"] := (fldC a_Office ⟨cg_Office, ch_Office, co_Office, cs_Office⟩ na_Office_name (fldC a_CappedOffice ⟨cg_CappedOffice, ch_CappedOffice, co_CappedOffice, cs_CappedOffice⟩ na_CappedOffice_name fld0))
  have y_fo_own_rate : FldOk K "own_rate" ["Office", "CappedOffice"] := (fldC a_Office ⟨cg_Office, ch_Office, co_Office, cs_Office⟩ na_Office_own_rate (fldC a_CappedOffice ⟨cg_CappedOffice, ch_CappedOffice, co_CappedOffice, cs_CappedOffice⟩ na_CappedOffice_own_rate fld0))
  have y_fo_own_fee : FldOk K "own_fee" ["Office", "CappedOffice"] := (fldC a_Office ⟨cg_Office, ch_Office, co_Office, cs_Office⟩ na_Office_own_fee (fldC a_CappedOffice ⟨cg_CappedOffice, ch_CappedOffice, co_CappedOffice, cs_CappedOffice⟩ na_CappedOffice_own_fee fld0))
  have y_fo_own_least : FldOk K "own_least" ["Office", "CappedOffice"] := (fldC a_Office ⟨cg_Office, ch_Office, co_Office, cs_Office⟩ na_Office_own_least (fldC a_CappedOffice ⟨cg_CappedOffice, ch_CappedOffice, co_CappedOffice, cs_CappedOffice⟩ na_CappedOffice_own_least fld0))
  have y_mk_Office_4_fee_least : MkP K mg "Office" "Office.__init__" s_Office_init ["self", "name", "source", "goal", "rate", "fee", "least"] 4 ["fee", "least"] := ⟨_, _, _, a_Office, PySem.W.mg_of X G a_Office, ⟨mm_Office, mi_Office, mf_Office_init, mc_Office⟩, (fun_mk (st := s_Office_init) l_Office_init c_Office_init k_Office_init), (Fun.kb (ps := ["self", "name", "source", "goal", "rate", "fee", "least"]) (n := 5) (ks := ["fee", "least"]) (fun_mk (st := s_Office_init) l_Office_init c_Office_init k_Office_init) fun _ _ _ _ _ _ us ws h1 h2 => match us, h1, ws, h2 with | [_, _, _, _, _], _, [_, _], _ => rfl)⟩
  have y_su_CappedOffice_CappedOffice_init_5_fee_least : SupP K "CappedOffice" "CappedOffice" "__init__" "Office.__init__" s_Office_init ["self", "name", "source", "goal", "rate", "fee", "least"] 5 ["fee", "least"] := ⟨_, _, _, _, a_CappedOffice, a_CappedOffice, ⟨sr_CappedOffice_CappedOffice, sa_CappedOffice_CappedOffice_init, st_Office_init, fi_Office_init, zo_any⟩, (fun_mk (st := s_Office_init) l_Office_init c_Office_init k_Office_init), (Fun.kb (ps := ["self", "name", "source", "goal", "rate", "fee", "least"]) (n := 5) (ks := ["fee", "least"]) (fun_mk (st := s_Office_init) l_Office_init c_Office_init k_Office_init) fun _ _ _ _ _ _ us ws h1 h2 => match us, h1, ws, h2 with | [_, _, _, _, _], _, [_, _], _ => rfl)⟩
  have y_co_MOST : ConOk K "MOST" 1000000 ["CappedOffice"] := (conC a_CappedOffice ⟨cg_CappedOffice, ch_CappedOffice, co_CappedOffice, cs_CappedOffice⟩ ⟨ck_CappedOffice_MOST, ⟨_, rfl⟩, rfl, by decide⟩ con0)
  have y_fo_own_most : FldOk K "own_most" ["CappedOffice"] := (fldC a_CappedOffice ⟨cg_CappedOffice, ch_CappedOffice, co_CappedOffice, cs_CappedOffice⟩ na_CappedOffice_own_most fld0)
  have y_mk_CappedOffice_4_most_fee_least : MkS l.prog K mg "CappedOffice" "CappedOffice.__init__" "CappedOffice" s_CappedOffice_init ["self", "name", "source", "goal", "rate", "most", "fee", "least"] 4 ["most", "fee", "least"] := ⟨_, _, _, _, _, _, a_CappedOffice, PySem.W.mg_of X G a_CappedOffice, ⟨mm_CappedOffice, mi_CappedOffice, mf_CappedOffice_init, mc_CappedOffice⟩, ⟨⟨_, _, _, _, _, _, _, _, _, rfl, l_CappedOffice_init, c_CappedOffice_init⟩, ⟨_, _, _, _, e_CappedOffice_init⟩⟩, ⟨PySem.W.mg_none_of X G z_super, ⟨_, _, _, _, _, l_CappedOffice_init, rfl, rfl⟩, ⟨_, _, _, _, _, _, g_CappedOffice_init, h_CappedOffice_init, i_CappedOffice_init⟩, zt_super, ⟨_, _, _, e_CappedOffice_init⟩, ⟨_, cd_CappedOffice⟩⟩, a_CappedOffice, (kbX (ps := ["self", "name", "source", "goal", "rate", "most", "fee", "least"]) (n := 5) (ks := ["most", "fee", "least"]) fun us ws h1 h2 => match us, h1, ws, h2 with | [_, _, _, _, _], _, [_, _, _], _ => rfl)⟩
  have y_fn_law_one : FnP K mg "_law_one" s_law_one ["_law_one_here"] := ⟨_, _, PySem.W.mg_of X G a_law_one, (fun_mk (st := s_law_one) l_law_one c_law_one k_law_one), binds_of (Fun.kb (ps := ["_law_one_here"]) (n := 1) (ks := []) (fun_mk (st := s_law_one) l_law_one c_law_one k_law_one) fun _ _ _ _ _ _ us ws h1 h2 => match us, h1, ws, h2 with | [_], _, [], _ => rfl) rfl⟩
  have y_fn_law_joined : FnP K mg "_law_joined" s_law_joined ["_law_start", "_law_offices"] := ⟨_, _, PySem.W.mg_of X G a_law_joined, (fun_mk (st := s_law_joined) l_law_joined c_law_joined k_law_joined), binds_of (Fun.kb (ps := ["_law_start", "_law_offices"]) (n := 2) (ks := []) (fun_mk (st := s_law_joined) l_law_joined c_law_joined k_law_joined) fun _ _ _ _ _ _ us ws h1 h2 => match us, h1, ws, h2 with | [_, _], _, [], _ => rfl) rfl⟩
  have y_pp_Route_end : PrpP K "Route" "end" "Route.end" s_Route_end := ⟨_, _, _, _, a_Route, ⟨cg_Route, ch_Route, co_Route, cs_Route⟩, ⟨m_Route_end, pg_Route_end, pt_Route_end, ⟨_, pr_Route_end⟩⟩, (fun_mk (st := s_Route_end) l_Route_end c_Route_end k_Route_end), (Fun.kb (ps := ["self"]) (n := 1) (ks := []) (fun_mk (st := s_Route_end) l_Route_end c_Route_end k_Route_end) fun _ _ _ _ _ _ us ws h1 h2 => match us, h1, ws, h2 with | [_], _, [], _ => rfl)⟩
  have y_pp_Route_start : PrpP K "Route" "start" "Route.start" s_Route_start := ⟨_, _, _, _, a_Route, ⟨cg_Route, ch_Route, co_Route, cs_Route⟩, ⟨m_Route_start, pg_Route_start, pt_Route_start, ⟨_, pr_Route_start⟩⟩, (fun_mk (st := s_Route_start) l_Route_start c_Route_start k_Route_start), (Fun.kb (ps := ["self"]) (n := 1) (ks := []) (fun_mk (st := s_Route_start) l_Route_start c_Route_start k_Route_start) fun _ _ _ _ _ _ us ws h1 h2 => match us, h1, ws, h2 with | [_], _, [], _ => rfl)⟩
  have y_pp_Route_offices : PrpP K "Route" "offices" "Route.offices" s_Route_offices := ⟨_, _, _, _, a_Route, ⟨cg_Route, ch_Route, co_Route, cs_Route⟩, ⟨m_Route_offices, pg_Route_offices, pt_Route_offices, ⟨_, pr_Route_offices⟩⟩, (fun_mk (st := s_Route_offices) l_Route_offices c_Route_offices k_Route_offices), (Fun.kb (ps := ["self"]) (n := 1) (ks := []) (fun_mk (st := s_Route_offices) l_Route_offices c_Route_offices k_Route_offices) fun _ _ _ _ _ _ us ws h1 h2 => match us, h1, ws, h2 with | [_], _, [], _ => rfl)⟩
  have y_pp_CappedOffice_most : PrpP K "CappedOffice" "most" "CappedOffice.most" s_CappedOffice_most := ⟨_, _, _, _, a_CappedOffice, ⟨cg_CappedOffice, ch_CappedOffice, co_CappedOffice, cs_CappedOffice⟩, ⟨m_CappedOffice_most, pg_CappedOffice_most, pt_CappedOffice_most, ⟨_, pr_CappedOffice_most⟩⟩, (fun_mk (st := s_CappedOffice_most) l_CappedOffice_most c_CappedOffice_most k_CappedOffice_most), (Fun.kb (ps := ["self"]) (n := 1) (ks := []) (fun_mk (st := s_CappedOffice_most) l_CappedOffice_most c_CappedOffice_most k_CappedOffice_most) fun _ _ _ _ _ _ us ws h1 h2 => match us, h1, ws, h2 with | [_], _, [], _ => rfl)⟩
  have y_pp_Office_most : PrpP K "Office" "most" "Office.most" s_Office_most := ⟨_, _, _, _, a_Office, ⟨cg_Office, ch_Office, co_Office, cs_Office⟩, ⟨m_Office_most, pg_Office_most, pt_Office_most, ⟨_, pr_Office_most⟩⟩, (fun_mk (st := s_Office_most) l_Office_most c_Office_most k_Office_most), (Fun.kb (ps := ["self"]) (n := 1) (ks := []) (fun_mk (st := s_Office_most) l_Office_most c_Office_most k_Office_most) fun _ _ _ _ _ _ us ws h1 h2 => match us, h1, ws, h2 with | [_], _, [], _ => rfl)⟩
  have y_ln_Route : LenP K "Route" "__len__" "Route.__len__" s_Route_len ["self"] := ⟨_, _, _, a_Route, ⟨m_Route_len, mf_Route_len⟩, (fun_mk (st := s_Route_len) l_Route_len c_Route_len k_Route_len), (Fun.kb (ps := ["self"]) (n := 1) (ks := []) (fun_mk (st := s_Route_len) l_Route_len c_Route_len k_Route_len) fun _ _ _ _ _ _ us ws h1 h2 => match us, h1, ws, h2 with | [_], _, [], _ => rfl)⟩
  have y_gi_LONGEST_ROUTE : IntP mg "LONGEST_ROUTE" 2 := ⟨_, PySem.W.mg_of X G gi_LONGEST_ROUTE⟩
  have y_fn_need_alike : FnP K mg "need_alike" s_need_alike ["one", "other"] := ⟨_, _, PySem.W.mg_of X G a_need_alike, (fun_mk (st := s_need_alike) l_need_alike c_need_alike k_need_alike), binds_of (Fun.kb (ps := ["one", "other"]) (n := 2) (ks := []) (fun_mk (st := s_need_alike) l_need_alike c_need_alike k_need_alike) fun _ _ _ _ _ _ us ws h1 h2 => match us, h1, ws, h2 with | [_, _], _, [], _ => rfl) rfl⟩
  have y_pp_CappedOffice_rate : PrpP K "CappedOffice" "rate" "Office.rate" s_Office_rate := ⟨_, _, _, _, a_CappedOffice, ⟨cg_CappedOffice, ch_CappedOffice, co_CappedOffice, cs_CappedOffice⟩, ⟨m_CappedOffice_rate, pg_Office_rate, pt_Office_rate, ⟨_, pr_Office_rate⟩⟩, (fun_mk (st := s_Office_rate) l_Office_rate c_Office_rate k_Office_rate), (Fun.kb (ps := ["self"]) (n := 1) (ks := []) (fun_mk (st := s_Office_rate) l_Office_rate c_Office_rate k_Office_rate) fun _ _ _ _ _ _ us ws h1 h2 => match us, h1, ws, h2 with | [_], _, [], _ => rfl)⟩
  have y_pp_Office_rate : PrpP K "Office" "rate" "Office.rate" s_Office_rate := ⟨_, _, _, _, a_Office, ⟨cg_Office, ch_Office, co_Office, cs_Office⟩, ⟨m_Office_rate, pg_Office_rate, pt_Office_rate, ⟨_, pr_Office_rate⟩⟩, (fun_mk (st := s_Office_rate) l_Office_rate c_Office_rate k_Office_rate), (Fun.kb (ps := ["self"]) (n := 1) (ks := []) (fun_mk (st := s_Office_rate) l_Office_rate c_Office_rate k_Office_rate) fun _ _ _ _ _ _ us ws h1 h2 => match us, h1, ws, h2 with | [_], _, [], _ => rfl)⟩
  have y_fn_reduced : FnP K mg "reduced" s_reduced ["numerator", "denominator"] := ⟨_, _, PySem.W.mg_of X G a_reduced, (fun_mk (st := s_reduced) l_reduced c_reduced k_reduced), binds_of (Fun.kb (ps := ["numerator", "denominator"]) (n := 2) (ks := []) (fun_mk (st := s_reduced) l_reduced c_reduced k_reduced) fun _ _ _ _ _ _ us ws h1 h2 => match us, h1, ws, h2 with | [_, _], _, [], _ => rfl) rfl⟩
  have y_fn_times : FnP K mg "times" s_times ["one", "other"] := ⟨_, _, PySem.W.mg_of X G a_times, (fun_mk (st := s_times) l_times c_times k_times), binds_of (Fun.kb (ps := ["one", "other"]) (n := 2) (ks := []) (fun_mk (st := s_times) l_times c_times k_times) fun _ _ _ _ _ _ us ws h1 h2 => match us, h1, ws, h2 with | [_, _], _, [], _ => rfl) rfl⟩
  have y_pp_Route_rate : PrpP K "Route" "rate" "Route.rate" s_Route_rate := ⟨_, _, _, _, a_Route, ⟨cg_Route, ch_Route, co_Route, cs_Route⟩, ⟨m_Route_rate, pg_Route_rate, pt_Route_rate, ⟨_, pr_Route_rate⟩⟩, (fun_mk (st := s_Route_rate) l_Route_rate c_Route_rate k_Route_rate), (Fun.kb (ps := ["self"]) (n := 1) (ks := []) (fun_mk (st := s_Route_rate) l_Route_rate c_Route_rate k_Route_rate) fun _ _ _ _ _ _ us ws h1 h2 => match us, h1, ws, h2 with | [_], _, [], _ => rfl)⟩
  have y_pp_CappedOffice_least : PrpP K "CappedOffice" "least" "Office.least" s_Office_least := ⟨_, _, _, _, a_CappedOffice, ⟨cg_CappedOffice, ch_CappedOffice, co_CappedOffice, cs_CappedOffice⟩, ⟨m_CappedOffice_least, pg_Office_least, pt_Office_least, ⟨_, pr_Office_least⟩⟩, (fun_mk (st := s_Office_least) l_Office_least c_Office_least k_Office_least), (Fun.kb (ps := ["self"]) (n := 1) (ks := []) (fun_mk (st := s_Office_least) l_Office_least c_Office_least k_Office_least) fun _ _ _ _ _ _ us ws h1 h2 => match us, h1, ws, h2 with | [_], _, [], _ => rfl)⟩
  have y_pp_Office_least : PrpP K "Office" "least" "Office.least" s_Office_least := ⟨_, _, _, _, a_Office, ⟨cg_Office, ch_Office, co_Office, cs_Office⟩, ⟨m_Office_least, pg_Office_least, pt_Office_least, ⟨_, pr_Office_least⟩⟩, (fun_mk (st := s_Office_least) l_Office_least c_Office_least k_Office_least), (Fun.kb (ps := ["self"]) (n := 1) (ks := []) (fun_mk (st := s_Office_least) l_Office_least c_Office_least k_Office_least) fun _ _ _ _ _ _ us ws h1 h2 => match us, h1, ws, h2 with | [_], _, [], _ => rfl)⟩
  have y_pp_CappedOffice_fee : PrpP K "CappedOffice" "fee" "Office.fee" s_Office_fee := ⟨_, _, _, _, a_CappedOffice, ⟨cg_CappedOffice, ch_CappedOffice, co_CappedOffice, cs_CappedOffice⟩, ⟨m_CappedOffice_fee, pg_Office_fee, pt_Office_fee, ⟨_, pr_Office_fee⟩⟩, (fun_mk (st := s_Office_fee) l_Office_fee c_Office_fee k_Office_fee), (Fun.kb (ps := ["self"]) (n := 1) (ks := []) (fun_mk (st := s_Office_fee) l_Office_fee c_Office_fee k_Office_fee) fun _ _ _ _ _ _ us ws h1 h2 => match us, h1, ws, h2 with | [_], _, [], _ => rfl)⟩
  have y_pp_Office_fee : PrpP K "Office" "fee" "Office.fee" s_Office_fee := ⟨_, _, _, _, a_Office, ⟨cg_Office, ch_Office, co_Office, cs_Office⟩, ⟨m_Office_fee, pg_Office_fee, pt_Office_fee, ⟨_, pr_Office_fee⟩⟩, (fun_mk (st := s_Office_fee) l_Office_fee c_Office_fee k_Office_fee), (Fun.kb (ps := ["self"]) (n := 1) (ks := []) (fun_mk (st := s_Office_fee) l_Office_fee c_Office_fee k_Office_fee) fun _ _ _ _ _ _ us ws h1 h2 => match us, h1, ws, h2 with | [_], _, [], _ => rfl)⟩
  have y_b_max : mg "max" = none := PySem.W.mg_none_of X G z_max
  have y_fn_regular_from : FnP K mg "regular_from" s_regular_from ["route"] := ⟨_, _, PySem.W.mg_of X G a_regular_from, (fun_mk (st := s_regular_from) l_regular_from c_regular_from k_regular_from), binds_of (Fun.kb (ps := ["route"]) (n := 1) (ks := []) (fun_mk (st := s_regular_from) l_regular_from c_regular_from k_regular_from) fun _ _ _ _ _ _ us ws h1 h2 => match us, h1, ws, h2 with | [_], _, [], _ => rfl) rfl⟩
  have y_fn_common_multiple : FnP K mg "common_multiple" s_common_multiple ["one", "other"] := ⟨_, _, PySem.W.mg_of X G a_common_multiple, (fun_mk (st := s_common_multiple) l_common_multiple c_common_multiple k_common_multiple), binds_of (Fun.kb (ps := ["one", "other"]) (n := 2) (ks := []) (fun_mk (st := s_common_multiple) l_common_multiple c_common_multiple k_common_multiple) fun _ _ _ _ _ _ us ws h1 h2 => match us, h1, ws, h2 with | [_, _], _, [], _ => rfl) rfl⟩
  have y_fn_product : FnP K mg "product" s_product ["numbers"] := ⟨_, _, PySem.W.mg_of X G a_product, (fun_mk (st := s_product) l_product c_product k_product), binds_of (Fun.kb (ps := ["numbers"]) (n := 1) (ks := []) (fun_mk (st := s_product) l_product c_product k_product) fun _ _ _ _ _ _ us ws h1 h2 => match us, h1, ws, h2 with | [_], _, [], _ => rfl) rfl⟩
  have y_fn_divisor : FnP K mg "divisor" s_divisor ["route"] := ⟨_, _, PySem.W.mg_of X G a_divisor, (fun_mk (st := s_divisor) l_divisor c_divisor k_divisor), binds_of (Fun.kb (ps := ["route"]) (n := 1) (ks := []) (fun_mk (st := s_divisor) l_divisor c_divisor k_divisor) fun _ _ _ _ _ _ us ws h1 h2 => match us, h1, ws, h2 with | [_], _, [], _ => rfl) rfl⟩
  have y_su_CappedOffice_CappedOffice_result_2 : SupP K "CappedOffice" "CappedOffice" "result" "Office.result" s_Office_result ["self", "coins"] 2 [] := ⟨_, _, _, _, a_CappedOffice, a_CappedOffice, ⟨sr_CappedOffice_CappedOffice, sa_CappedOffice_CappedOffice_result, st_Office_result, fi_Office_result, zo_any⟩, (fun_mk (st := s_Office_result) l_Office_result c_Office_result k_Office_result), (Fun.kb (ps := ["self", "coins"]) (n := 2) (ks := []) (fun_mk (st := s_Office_result) l_Office_result c_Office_result k_Office_result) fun _ _ _ _ _ _ us ws h1 h2 => match us, h1, ws, h2 with | [_, _], _, [], _ => rfl)⟩
  have y_me_CappedOffice_result_2 : MthS l.prog K mg "CappedOffice" "result" "CappedOffice.result" "CappedOffice" s_CappedOffice_result ["self", "coins"] 2 [] := ⟨_, _, _, _, _, _, a_CappedOffice, ⟨cg_CappedOffice, ch_CappedOffice, co_CappedOffice, cs_CappedOffice⟩, ⟨m_CappedOffice_result, mf_CappedOffice_result, k_CappedOffice_result⟩, ⟨⟨_, _, _, _, _, _, _, _, _, rfl, l_CappedOffice_result, c_CappedOffice_result⟩, ⟨_, _, _, _, e_CappedOffice_result⟩⟩, ⟨PySem.W.mg_none_of X G z_super, ⟨_, _, _, _, _, l_CappedOffice_result, rfl, rfl⟩, ⟨_, _, _, _, _, _, g_CappedOffice_result, h_CappedOffice_result, i_CappedOffice_result⟩, zt_super, ⟨_, _, _, e_CappedOffice_result⟩, ⟨_, cd_CappedOffice⟩⟩, a_CappedOffice, (kbX (ps := ["self", "coins"]) (n := 2) (ks := []) fun us ws h1 h2 => match us, h1, ws, h2 with | [_, _], _, [], _ => rfl)⟩
  have y_me_Office_result_2 : MthP K "Office" "result" "Office.result" s_Office_result ["self", "coins"] 2 [] := ⟨_, _, _, a_Office, ⟨cg_Office, ch_Office, co_Office, cs_Office⟩, ⟨m_Office_result, mf_Office_result, k_Office_result⟩, (fun_mk (st := s_Office_result) l_Office_result c_Office_result k_Office_result), (Fun.kb (ps := ["self", "coins"]) (n := 2) (ks := []) (fun_mk (st := s_Office_result) l_Office_result c_Office_result k_Office_result) fun _ _ _ _ _ _ us ws h1 h2 => match us, h1, ws, h2 with | [_, _], _, [], _ => rfl)⟩
  have y_me_Route_result_2 : MthP K "Route" "result" "Route.result" s_Route_result ["self", "coins"] 2 [] := ⟨_, _, _, a_Route, ⟨cg_Route, ch_Route, co_Route, cs_Route⟩, ⟨m_Route_result, mf_Route_result, k_Route_result⟩, (fun_mk (st := s_Route_result) l_Route_result c_Route_result k_Route_result), (Fun.kb (ps := ["self", "coins"]) (n := 2) (ks := []) (fun_mk (st := s_Route_result) l_Route_result c_Route_result k_Route_result) fun _ _ _ _ _ _ us ws h1 h2 => match us, h1, ws, h2 with | [_, _], _, [], _ => rfl)⟩
  have y_fn_is_worse : FnP K mg "is_worse" s_is_worse ["one", "other", "amount"] := ⟨_, _, PySem.W.mg_of X G a_is_worse, (fun_mk (st := s_is_worse) l_is_worse c_is_worse k_is_worse), binds_of (Fun.kb (ps := ["one", "other", "amount"]) (n := 3) (ks := []) (fun_mk (st := s_is_worse) l_is_worse c_is_worse k_is_worse) fun _ _ _ _ _ _ us ws h1 h2 => match us, h1, ws, h2 with | [_, _, _], _, [], _ => rfl) rfl⟩
  have y_fn_rise : FnP K mg "rise" s_rise ["route", "width"] := ⟨_, _, PySem.W.mg_of X G a_rise, (fun_mk (st := s_rise) l_rise c_rise k_rise), binds_of (Fun.kb (ps := ["route", "width"]) (n := 2) (ks := []) (fun_mk (st := s_rise) l_rise c_rise k_rise) fun _ _ _ _ _ _ us ws h1 h2 => match us, h1, ws, h2 with | [_, _], _, [], _ => rfl) rfl⟩
  have y_fn_first_worse : FnP K mg "first_worse" s_first_worse ["one", "other"] := ⟨_, _, PySem.W.mg_of X G a_first_worse, (fun_mk (st := s_first_worse) l_first_worse c_first_worse k_first_worse), binds_of (Fun.kb (ps := ["one", "other"]) (n := 2) (ks := []) (fun_mk (st := s_first_worse) l_first_worse c_first_worse k_first_worse) fun _ _ _ _ _ _ us ws h1 h2 => match us, h1, ws, h2 with | [_, _], _, [], _ => rfl) rfl⟩
  have y_fn_relation : FnP K mg "relation" s_relation ["one", "other"] := ⟨_, _, PySem.W.mg_of X G a_relation, (fun_mk (st := s_relation) l_relation c_relation k_relation), binds_of (Fun.kb (ps := ["one", "other"]) (n := 2) (ks := []) (fun_mk (st := s_relation) l_relation c_relation k_relation) fun _ _ _ _ _ _ us ws h1 h2 => match us, h1, ws, h2 with | [_, _], _, [], _ => rfl) rfl⟩
  have Z : Zt l.prog K mg := ⟨y_b_list, y_fn_law_pen, y_b_len, y_b_min, y_b_range, y_b_int, y_b_abs, y_fn_law_draw, y_fn_law_pick, y_fn_law_names, y_fn_law_part, y_fn_law_bettered, y_gs_ALPHABET, y_b_all, y_gi_LETTERS, y_b_isinstance, y_b_str, y_fn_is_name, y_fn_need_name, y_is_Office, y_b_enumerate, y_fo_own_ends, y_pp_CappedOffice_source, y_pp_Office_source, y_pp_CappedOffice_goal, y_pp_Office_goal, y_co_LENGTH, y_fo_own_start, y_fo_own_end, y_fo_own_offices, y_mv_Route, y_bo_Route_add, y_ot_Route_CappedOffice_add, y_ot_Route_Office_add, y_bb_Route_add, y_b_tuple, y_b_bool, y_fk_is_integer_1_least_most, y_ca_Office_RATE, y_fn_is_rate, y_fk_need_integer_1_least_most, y_co_FEE, y_co_LEAST, y_fo_name, y_fo_own_rate, y_fo_own_fee, y_fo_own_least, y_mk_Office_4_fee_least, y_su_CappedOffice_CappedOffice_init_5_fee_least, y_co_MOST, y_fo_own_most, y_mk_CappedOffice_4_most_fee_least, y_fn_law_one, y_fn_law_joined, y_pp_Route_end, y_pp_Route_start, y_pp_Route_offices, y_pp_CappedOffice_most, y_pp_Office_most, y_ln_Route, y_gi_LONGEST_ROUTE, y_fn_need_alike, y_pp_CappedOffice_rate, y_pp_Office_rate, y_fn_reduced, y_fn_times, y_pp_Route_rate, y_pp_CappedOffice_least, y_pp_Office_least, y_pp_CappedOffice_fee, y_pp_Office_fee, y_b_max, y_fn_regular_from, y_fn_common_multiple, y_fn_product, y_fn_divisor, y_su_CappedOffice_CappedOffice_result_2, y_me_CappedOffice_result_2, y_me_Office_result_2, y_me_Route_result_2, y_fn_is_worse, y_fn_rise, y_fn_first_worse, y_fn_relation⟩
  exact ⟨_, fun s v => .of_eq rfl, fun base _ _ => pr_law Z _ _ (fun_mk (st := s_law) l_law c_law k_law)⟩
end Lw
/-! Pl: plain reasoning about computations: what an answer is like. -/
namespace Dn
open PySem
section
variable {α β : Type} {s : S} {env : Env} {st : List MO} {Q : α → S → Prop} {QB : β → S → Prop} {c : M α} {i j k : Nat} {ca cb cd : M PV} {fa fb : M Fl} {E : PV → S → Prop} {EF : PV → List MO → Prop}
/-- c answers, and Q holds of the answer and the state behind it; or an exception comes, and E holds of it -/
def Okx (E : PV → S → Prop) (c : M α) (s : S) (Q : α → S → Prop) : Prop := match c s with
  | .ok a s' => Q a s'
  | .exc e s' => E e s'
  | .stk => False
/-- c answers -/
abbrev Ok (c : M α) (s : S) (Q : α → S → Prop) : Prop := Okx (fun _ _ => False) c s Q
theorem Okx.two (h : Okx E c s Q) : (∃ a s', c s = .ok a s' ∧ Q a s') ∨ ∃ e s', c s = .exc e s' ∧ E e s' := by
  unfold Okx at h
  cases e : c s with
  | ok a s' => rw [e] at h; exact .inl ⟨a, s', rfl, h⟩
  | exc e' s' => rw [e] at h; exact .inr ⟨e', s', rfl, h⟩
  | stk => rw [e] at h; exact h.elim
theorem Okx.ofx {e : PV} {s' : S} (z : c s = .exc e s') (h : E e s') : Okx E c s Q := by unfold Okx; rw [z]; exact h
theorem Okx.ex (h : Ok c s Q) : ∃ a s', c s = .ok a s' ∧ Q a s' := by
  rcases h.two with h | ⟨_, _, _, h⟩
  · exact h
  · exact h.elim
theorem Okx.of {a : α} {s' : S} (e : c s = .ok a s') (h : Q a s') : Okx E c s Q := by unfold Okx; rw [e]; exact h
theorem Okx.imp {Q' : α → S → Prop} (h : Okx E c s Q) (f : ∀ a s', Q a s' → Q' a s') : Okx E c s Q' := by
  rcases h.two with ⟨a, s', e, q⟩ | ⟨e, s', z, q⟩
  · exact Okx.of e (f a s' q)
  · exact Okx.ofx z q
theorem Okx.impx {E' : PV → S → Prop} {Q' : α → S → Prop} (h : Okx E c s Q) (f : ∀ a s', Q a s' → Q' a s') (g : ∀ e s', E e s' → E' e s') : Okx E' c s Q' := by
  rcases h.two with ⟨a, s', e, q⟩ | ⟨e, s', z, q⟩
  · exact Okx.of e (f a s' q)
  · exact Okx.ofx z (g e s' q)
theorem Ok.up (h : Ok c s Q) : Okx E c s Q := h.impx (fun _ _ q => q) fun _ _ q => q.elim
theorem ok_ret {a : α} : Okx E (ret a) s Q ↔ Q a s := Iff.rfl
theorem ok_bnd {f : α → M β} : Okx E (bnd c f) s QB ↔ Okx E c s (fun a s' => Okx E (f a) s' QB) := by
  unfold Okx bnd
  cases c s <;> exact Iff.rfl
theorem ok_lft {o : Option α} : Okx E (lft o) s Q ↔ ∃ a, o = some a ∧ Q a s := by
  unfold Okx lft
  cases o with
  | none => exact ⟨fun h => h.elim, fun ⟨_, h, _⟩ => nomatch h⟩
  | some a => exact ⟨fun h => ⟨a, rfl, h⟩, fun ⟨_, h, q⟩ => by cases h; exact q⟩
theorem ok_ite {p : Prop} [Decidable p] {c d : M α} : Okx E (if p then c else d) s Q ↔ if p then Okx E c s Q else Okx E d s Q := by
  split <;> exact Iff.rfl
def varK (i : Nat) (env : Env) (st : List MO) (Q : PV → S → Prop) : Option (Option SV) → Prop
  | some (some (.val d)) => Q d ⟨env, st⟩
  | some (some (.own xs)) => Q (.lst xs) ⟨env.set i (some (.val (.lst xs))), st⟩
  | _ => False
theorem ok_var {Q : PV → S → Prop} : Okx E (var i) ⟨env, st⟩ Q ↔ varK i env st Q env[i]? := by
  unfold Okx var varK
  dsimp only
  rcases env[i]? with _ | _ | sv
  · exact Iff.rfl
  · exact Iff.rfl
  · cases sv <;> exact Iff.rfl
theorem varK_val {Q : PV → S → Prop} {d : PV} : varK i env st Q (some (some (.val d))) ↔ Q d ⟨env, st⟩ := Iff.rfl
theorem varK_own {Q : PV → S → Prop} {xs : List PV} : varK i env st Q (some (some (.own xs))) ↔ Q (.lst xs) ⟨env.set i (some (.val (.lst xs))), st⟩ := Iff.rfl
theorem pv_val {d : PV} : (SV.val d).pv = d := rfl
theorem pv_own {xs : List PV} : (SV.own xs).pv = .lst xs := rfl
theorem ok_bin {op : PV → PV → M PV} {Q : PV → S → Prop} : Okx E (bin ca cb op) s Q ↔ Okx E ca s (fun a s' => Okx E cb s' (fun b s2 => Okx E (op a b) s2 Q)) := by
  unfold bin
  rw [ok_bnd]
  exact ⟨fun h => h.imp fun a s' q => ok_bnd.mp q, fun h => h.imp fun a s' q => ok_bnd.mpr q⟩
def asBK (s : S) (Q : Bool → S → Prop) : PV → Prop
  | .bl b => Q b s
  | _ => False
theorem ok_asB {Q : Bool → S → Prop} : Okx E (asB ca) s Q ↔ Okx E ca s (fun d s' => asBK s' Q d) := by
  unfold asB
  rw [ok_bnd]
  refine ⟨fun h => h.imp fun a s' q => ?_, fun h => h.imp fun a s' q => ?_⟩ <;> cases a <;> exact q
theorem asBK_bl {Q : Bool → S → Prop} {b : Bool} : asBK s Q (.bl b) ↔ Q b s := Iff.rfl
theorem ok_andT {a b : M Bool} {Q : Bool → S → Prop} : Okx E (andT a b) s Q ↔ Okx E a s (fun x s' => if x = true then Okx E b s' Q else Q false s') := by
  unfold andT
  rw [ok_bnd]
  refine ⟨fun h => h.imp fun a s' q => ?_, fun h => h.imp fun a s' q => ?_⟩ <;> cases a <;> exact q
theorem ok_orT {a b : M Bool} {Q : Bool → S → Prop} : Okx E (orT a b) s Q ↔ Okx E a s (fun x s' => if x = true then Q true s' else Okx E b s' Q) := by
  unfold orT
  rw [ok_bnd]
  refine ⟨fun h => h.imp fun a s' q => ?_, fun h => h.imp fun a s' q => ?_⟩ <;> cases a <;> exact q
theorem ok_notT {a : M Bool} {Q : Bool → S → Prop} : Okx E (notT a) s Q ↔ Okx E a s (fun x s' => Q (!x) s') := by
  unfold notT
  rw [ok_bnd]
  exact Iff.rfl
theorem ok_iteT {t : M Bool} {Q : PV → S → Prop} : Okx E (iteT t ca cb) s Q ↔ Okx E t s (fun x s' => if x = true then Okx E ca s' Q else Okx E cb s' Q) := by
  unfold iteT
  rw [ok_bnd]
  refine ⟨fun h => h.imp fun a s' q => ?_, fun h => h.imp fun a s' q => ?_⟩ <;> cases a <;> exact q
def blK (s : S) (Q : Bool → Prop) : PV → Prop
  | .bl b => Q b
  | _ => False
theorem blK_bl {Q : Bool → Prop} {b : Bool} : blK s Q (.bl b) ↔ Q b := Iff.rfl
theorem ok_andV {Q : PV → S → Prop} : Okx E (andV ca cb) s Q ↔ Okx E ca s (fun d s' => blK s' (fun x => if x = true then Okx E cb s' Q else Q (.bl false) s') d) := by
  unfold andV
  rw [ok_bnd]
  refine ⟨fun h => h.imp fun a s' q => ?_, fun h => h.imp fun a s' q => ?_⟩ <;> cases a <;> first | exact q | (rename_i b; cases b <;> exact q)
theorem ok_notV {Q : PV → S → Prop} : Okx E (notV ca) s Q ↔ Okx E ca s (fun d s' => blK s' (fun x => Q (.bl (!x)) s') d) := by
  unfold notV
  rw [ok_bnd]
  refine ⟨fun h => h.imp fun a s' q => ?_, fun h => h.imp fun a s' q => ?_⟩ <;> cases a <;> exact q
/-! ### arguments, displays -/
theorem ok_argN {Q : List PV → S → Prop} : Okx E argN s Q ↔ Q [] s := Iff.rfl
theorem ok_argC {r : M (List PV)} {Q : List PV → S → Prop} : Okx E (argC ca r) s Q ↔ Okx E ca s (fun d s' => Okx E r s' (fun ds s2 => Q (d :: ds) s2)) := by
  unfold argC
  rw [ok_bnd]
  exact ⟨fun h => h.imp fun a s' q => ok_bnd.mp q, fun h => h.imp fun a s' q => ok_bnd.mpr q⟩
theorem ok_fits {r : M (List PV)} {Q : List PV → S → Prop} : Okx E (fits r) s Q ↔ Okx E r s (fun ds s' => ds.length ≤ sizeLine ∧ Q ds s') := by
  unfold fits
  rw [ok_bnd]
  refine ⟨fun h => h.imp fun a s' q => ?_, fun h => h.imp fun a s' q => ?_⟩
  · rw [ok_ite] at q
    split at q
    · exact ⟨by assumption, q⟩
    · exact q.elim
  · rw [ok_ite, if_pos q.1]
    exact q.2
theorem ok_tupM {r : M (List PV)} {Q : PV → S → Prop} : Okx E (tupM r) s Q ↔ Okx E r s (fun ds s' => ds.length ≤ sizeLine ∧ Q (.tup ds) s') := by
  unfold tupM
  rw [ok_bnd, ok_fits]
  exact Iff.rfl
theorem ok_lstM {r : M (List PV)} {Q : PV → S → Prop} : Okx E (lstM r) s Q ↔ Okx E r s (fun ds s' => Q (.lst ds) s') := by
  unfold lstM
  rw [ok_bnd]
  exact Iff.rfl
theorem ok_parN {Q : Option Int → S → Prop} : Okx E parN s Q ↔ Q none s := Iff.rfl
def intK (s : S) (Q : Int → Prop) : PV → Prop
  | .int b => Q b
  | _ => False
theorem intK_int {Q : Int → Prop} {b : Int} : intK s Q (.int b) ↔ Q b := Iff.rfl
theorem ok_parS {Q : Option Int → S → Prop} : Okx E (parS ca) s Q ↔ Okx E ca s (fun d s' => intK s' (fun i => Q (some i) s') d) := by
  unfold parS
  rw [ok_bnd]
  refine ⟨fun h => h.imp fun a s' q => ?_, fun h => h.imp fun a s' q => ?_⟩ <;> cases a <;> exact q
theorem ok_slM {lo hi : M (Option Int)} {Q : PV → S → Prop} : Okx E (slM ca lo hi) s Q ↔ Okx E ca s (fun d s1 => Okx E lo s1 (fun a s2 => Okx E hi s2 (fun b s3 => ∃ x, slP d a b = some x ∧ Q x s3))) := by
  unfold slM
  rw [ok_bnd]
  exact ⟨fun h => h.imp fun a s' q => (ok_bnd.mp q).imp fun b s2 q => (ok_bnd.mp q).imp fun c s3 q => ok_lft.mp q, fun h => h.imp fun a s' q => ok_bnd.mpr (q.imp fun b s2 q => ok_bnd.mpr (q.imp fun c s3 q => ok_lft.mpr q))⟩
def strK (Q : Str → Prop) : PV → Prop
  | .str b => Q b
  | _ => False
theorem strK_str {Q : Str → Prop} {b : Str} : strK Q (.str b) ↔ Q b := Iff.rfl
theorem ok_joinM {Q : PV → S → Prop} : Okx E (joinM ca cb) s Q ↔ Okx E ca s (fun d s' => strK (fun x => Okx E cb s' (fun b s2 => ∃ y, joinP x b = some y ∧ Q y s2)) d) := by
  unfold joinM
  rw [ok_bnd]
  refine ⟨fun h => h.imp fun a s' q => ?_, fun h => h.imp fun a s' q => ?_⟩
  · cases a <;> first | exact q | exact (ok_bnd.mp q).imp fun b s2 q => ok_lft.mp q
  · cases a <;> first | exact q | exact ok_bnd.mpr (Okx.imp q fun b s2 q => ok_lft.mpr q)
theorem ok_itemsM {Q : List PV → S → Prop} : Okx E (itemsM ca) s Q ↔ Okx E ca s (fun d s' => ∃ xs, itemsP d = some xs ∧ Q xs s') := by
  unfold itemsM
  rw [ok_bnd]
  exact ⟨fun h => h.imp fun a s' q => ok_lft.mp q, fun h => h.imp fun a s' q => ok_lft.mpr q⟩
theorem ok_rngM {Q : List PV → S → Prop} : Okx E (rngM ca) s Q ↔ Okx E ca s (fun d s' => ∃ xs, rngP d = some xs ∧ Q xs s') := by
  unfold rngM
  rw [ok_bnd]
  exact ⟨fun h => h.imp fun a s' q => ok_lft.mp q, fun h => h.imp fun a s' q => ok_lft.mpr q⟩
/-! ### statements -/
def seqK (E : PV → S → Prop) (b : M Fl) (s : S) (Q : Fl → S → Prop) : Fl → Prop
  | .nx => Okx E b s Q
  | fl => Q fl s
theorem ok_seqM {Q : Fl → S → Prop} : Okx E (seqM fa fb) s Q ↔ Okx E fa s (fun fl s' => seqK E fb s' Q fl) := by
  unfold Okx seqM
  cases fa s with
  | ok fl s' => cases fl <;> exact Iff.rfl
  | exc => exact Iff.rfl
  | stk => exact Iff.rfl
theorem seqK_nx {Q : Fl → S → Prop} : seqK E fb s Q .nx ↔ Okx E fb s Q := Iff.rfl
theorem seqK_rt {Q : Fl → S → Prop} {d : PV} : seqK E fb s Q (.rt d) ↔ Q (.rt d) s := Iff.rfl
theorem seqK_bk {Q : Fl → S → Prop} : seqK E fb s Q .bk ↔ Q .bk s := Iff.rfl
theorem seqK_ct {Q : Fl → S → Prop} : seqK E fb s Q .ct ↔ Q .ct s := Iff.rfl
theorem ok_ifM {t : M Bool} {Q : Fl → S → Prop} : Okx E (ifM t fa fb) s Q ↔ Okx E t s (fun x s' => if x = true then Okx E fa s' Q else Okx E fb s' Q) := by
  unfold ifM
  rw [ok_bnd]
  refine ⟨fun h => h.imp fun a s' q => ?_, fun h => h.imp fun a s' q => ?_⟩ <;> cases a <;> exact q
theorem ok_retM {Q : Fl → S → Prop} : Okx E (retM ca) s Q ↔ Okx E ca s (fun d s' => Q (.rt d) s') := by unfold retM; rw [ok_bnd]; exact Iff.rfl
theorem ok_dropM {Q : Fl → S → Prop} : Okx E (dropM ca) s Q ↔ Okx E ca s (fun _ s' => Q .nx s') := by unfold dropM; rw [ok_bnd]; exact Iff.rfl
theorem ok_skipM {Q : Fl → S → Prop} : Okx E skipM s Q ↔ Q .nx s := Iff.rfl
theorem ok_asgM {Q : Fl → S → Prop} : Okx E (asgM i ca) s Q ↔ Okx E ca s (fun d s' => Q .nx ⟨s'.env.set i (some (.val d)), s'.sto⟩) := by unfold asgM; rw [ok_bnd]; exact Iff.rfl
theorem ok_asgO {r : M (List PV)} {Q : Fl → S → Prop} : Okx E (asgO i r) s Q ↔ Okx E r s (fun d s' => Q .nx ⟨s'.env.set i (some (.own d)), s'.sto⟩) := by unfold asgO; rw [ok_bnd]; exact Iff.rfl
theorem ok_par2 {Q : Fl → S → Prop} : Okx E (par2 i j ca cb) s Q ↔ Okx E ca s (fun a s1 => Okx E cb s1 (fun b s2 => Q .nx ⟨(s2.env.set i (some (.val a))).set j (some (.val b)), s2.sto⟩)) := by
  unfold par2
  rw [ok_bnd]
  exact ⟨fun h => h.imp fun a s' q => ok_bnd.mp q, fun h => h.imp fun a s' q => ok_bnd.mpr q⟩
theorem ok_par2VO {r : M (List PV)} {Q : Fl → S → Prop} : Okx E (par2VO i j ca r) s Q ↔ Okx E ca s (fun a s1 => Okx E r s1 (fun b s2 => Q .nx ⟨(s2.env.set i (some (.val a))).set j (some (.own b)), s2.sto⟩)) := by
  unfold par2VO
  rw [ok_bnd]
  exact ⟨fun h => h.imp fun a s' q => ok_bnd.mp q, fun h => h.imp fun a s' q => ok_bnd.mpr q⟩
theorem ok_par3 {Q : Fl → S → Prop} : Okx E (par3 i j k ca cb cd) s Q ↔ Okx E ca s (fun a s1 => Okx E cb s1 (fun b s2 => Okx E cd s2 (fun d s3 => Q .nx ⟨((s3.env.set i (some (.val a))).set j (some (.val b))).set k (some (.val d)), s3.sto⟩))) := by
  unfold par3
  rw [ok_bnd]
  exact ⟨fun h => h.imp fun a s' q => (ok_bnd.mp q).imp fun b s2 q => ok_bnd.mp q, fun h => h.imp fun a s' q => ok_bnd.mpr (q.imp fun b s2 q => ok_bnd.mpr q)⟩
/-! ### calls, functions -/
def OkFx (E : PV → List MO → Prop) (r : RR) (Q : PV → List MO → Prop) : Prop := match r with
  | .ok d st => Q d st
  | .exc e st => E e st
  | .stk => False
abbrev OkF (r : RR) (Q : PV → List MO → Prop) : Prop := OkFx (fun _ _ => False) r Q
theorem OkFx.ex {r : RR} {Q : PV → List MO → Prop} (h : OkF r Q) : ∃ d st, r = .ok d st ∧ Q d st := by
  cases r with
  | ok d st => exact ⟨d, st, rfl, h⟩
  | exc => exact h.elim
  | stk => exact h.elim
theorem OkFx.imp {r : RR} {Q Q' : PV → List MO → Prop} (h : OkFx EF r Q) (f : ∀ d st, Q d st → Q' d st) : OkFx EF r Q' := by
  cases r with
  | ok d st => exact f d st h
  | exc => exact h
  | stk => exact h
theorem OkFx.impx {r : RR} {E' Q Q' : PV → List MO → Prop} (h : OkFx EF r Q) (f : ∀ d st, Q d st → Q' d st) (g : ∀ e st, EF e st → E' e st) : OkFx E' r Q' := by
  cases r with
  | ok d st => exact f d st h
  | exc e st => exact g e st h
  | stk => exact h
theorem OkF.up {r : RR} {Q : PV → List MO → Prop} (h : OkF r Q) : OkFx EF r Q := h.impx (fun _ _ q => q) fun _ _ q => q.elim
theorem ok_callM {m : Fn} {n : Nat} {r : M (List PV)} {Q : PV → S → Prop} : Okx E (callM m n r) s Q ↔ Okx E r s (fun ds s' => OkFx (fun e st => E e ⟨s'.env, st⟩) (m n ds s'.sto) (fun d st => Q d ⟨s'.env, st⟩)) := by
  unfold callM
  rw [ok_bnd]
  have key : ∀ (ds : List PV) (s' : S), Okx E (fun s : S => match m n ds s.sto with
      | .ok d st' => Res.ok d { s with sto := st' }
      | .exc e st' => .exc e { s with sto := st' }
      | .stk => .stk) s' Q ↔ OkFx (fun e st => E e ⟨s'.env, st⟩) (m n ds s'.sto) (fun d st => Q d ⟨s'.env, st⟩) := fun ds s' => by
    unfold Okx OkFx
    dsimp only
    cases m n ds s'.sto <;> exact Iff.rfl
  exact ⟨fun h => h.imp fun ds s' q => (key ds s').mp q, fun h => h.imp fun ds s' q => (key ds s').mpr q⟩
def rtK (Q : PV → List MO → Prop) (s : S) : Fl → Prop
  | .rt d => Q d s.sto
  | .nx => Q .non s.sto
  | _ => False
theorem rtK_rt {Q : PV → List MO → Prop} {d : PV} : rtK Q s (.rt d) ↔ Q d s.sto := Iff.rfl
theorem rtK_nx {Q : PV → List MO → Prop} : rtK Q s .nx ↔ Q .non s.sto := Iff.rfl
theorem okF_fn {np nn n : Nat} {body : Nat → M Fl} {ds : List PV} {st : List MO} {Q : PV → List MO → Prop} (hl : ds.length = np)
    (h : Okx (fun e s => EF e s.sto) (body n) ⟨ds.map (fun d => some (SV.val d)) ++ List.replicate (nn - np) none, st⟩ (fun fl s => rtK Q s fl)) : OkFx EF (fnM np nn body n ds st) Q := by
  unfold fnM
  rw [if_pos hl]
  rcases h.two with ⟨fl, s', e, q⟩ | ⟨e, s', z, q⟩
  · rw [e]
    cases fl <;> exact q
  · rw [z]
    exact q
/-! ### handles -/
def getK (s : S) (Q : PV → S → Prop) : Option PV → Prop
  | some d => Q d s
  | none => False
theorem getK_some {Q : PV → S → Prop} {d : PV} : getK s Q (some d) ↔ Q d s := Iff.rfl
theorem ok_hget0 {key : Str} {kvs : List (L2.Key × PV)} {Q : PV → S → Prop} : Okx E (hgetP (.hnd 0) (.str key)) ⟨env, .dic kvs :: st⟩ Q ↔ getK ⟨env, .dic kvs :: st⟩ Q (valP kvs (.inr key)) := by
  unfold Okx hgetP getK
  simp only [List.getElem?_cons_zero]
  cases valP kvs (.inr key) <;> exact Iff.rfl
def putK (v : PV) (Q : Fl → S → Prop) (s : S) (a b : PV) : Prop := match a, b with
  | .hnd n, .str k => match s.sto[n]? with
    | some (.dic kvs) => kvs.length < sizeLine ∧ Q .nx ⟨s.env, s.sto.set n (.dic (putP kvs (.inr k) v))⟩
    | _ => False
  | _, _ => False
theorem ok_hputM {cd ck cv : M PV} {Q : Fl → S → Prop} : Okx E (hputM cd ck cv) s Q ↔ Okx E cv s (fun v s1 => Okx E cd s1 (fun a s2 => Okx E ck s2 (fun b s3 => putK v Q s3 a b))) := by
  unfold hputM
  rw [ok_bnd]
  have key : ∀ (v a b : PV) (s : S), Okx E (fun s : S => match a, b with
      | .hnd n, .str k => match s.sto[n]? with
        | some (.dic kvs) => if kvs.length < sizeLine then Res.ok Fl.nx { s with sto := s.sto.set n (.dic (putP kvs (.inr k) v)) } else .stk
        | _ => .stk
      | _, _ => .stk) s Q ↔ putK v Q s a b := fun v a b s => by
    unfold Okx putK
    dsimp only
    cases a <;> cases b <;> try exact Iff.rfl
    rename_i n x
    dsimp only
    cases s.sto[n]? with
    | none => exact Iff.rfl
    | some mo =>
      cases mo with
      | dic kvs =>
        dsimp only
        by_cases h : kvs.length < sizeLine
        · simp [h]
        · simp [h]
      | ins => exact Iff.rfl
      | own => exact Iff.rfl
      | gone => exact Iff.rfl
  exact ⟨fun h => h.imp fun v s1 q => (ok_bnd.mp q).imp fun a s2 q => (ok_bnd.mp q).imp fun b s3 q => (key v a b s3).mp q,
    fun h => h.imp fun v s1 q => ok_bnd.mpr (q.imp fun a s2 q => ok_bnd.mpr (q.imp fun b s3 q => (key v a b s3).mpr q))⟩
theorem putK0 {key : Str} {v : PV} {kvs : List (L2.Key × PV)} {Q : Fl → S → Prop} : putK v Q ⟨env, .dic kvs :: st⟩ (.hnd 0) (.str key) ↔ kvs.length < sizeLine ∧ Q .nx ⟨env, .dic (putP kvs (.inr key) v) :: st⟩ := Iff.rfl
/-! ### loops -/
def flK (Q : Fl → S → Prop) (N : S → Prop) (s : S) : Fl → Prop
  | .nx => N s
  | .ct => N s
  | .bk => Q .nx s
  | .rt d => Q (.rt d) s
theorem ok_for {body : M Fl} {xs : List PV} {Q : Fl → S → Prop} (I : Nat → S → Prop) (h0 : I 0 s) (hs : ∀ (k : Nat) (x : PV) (s : S), xs[k]? = some x → I k s → Okx E body ⟨s.env.set i (some (.val x)), s.sto⟩ (fun fl s' => flK Q (I (k + 1)) s' fl)) (hd : ∀ s, I xs.length s → Q .nx s) : Okx E (forM i body xs) s Q := by
  have key : ∀ (ys : List PV) (k : Nat) (s : S), xs.drop k = ys → k + ys.length = xs.length → I k s → Okx E (forM i body ys) s Q := by
    intro ys
    induction ys with
    | nil =>
      intro k s e hl hI
      have hk : k = xs.length := by simpa using hl
      subst hk
      exact hd s hI
    | cons y ys ih =>
      intro k s e hl hI
      have hk : k < xs.length := by simp at hl; omega
      have e' := List.drop_eq_getElem_cons hk
      rw [e] at e'
      obtain ⟨e1, e2⟩ := List.cons.inj e'
      have hg : xs[k]? = some y := by rw [e1]; exact List.getElem?_eq_getElem hk
      have hb := hs k y s hg hI
      rcases hb.two with ⟨fl, s', eb, q⟩ | ⟨z, s', eb, q⟩
      case' inr =>
        have eb : body { s with env := s.env.set i (some (.val y)) } = .exc z s' := eb
        unfold Okx forM
        simp only [eb]
        exact q
      unfold Okx forM
      have eb : body { s with env := s.env.set i (some (.val y)) } = .ok fl s' := eb
      cases fl with
      | nx => simp only [eb]; exact ih (k + 1) s' e2.symm (by simp at hl; omega) q
      | ct => simp only [eb]; exact ih (k + 1) s' e2.symm (by simp at hl; omega) q
      | bk => simp only [eb]; exact q
      | rt d => simp only [eb]; exact q
  exact key xs 0 s rfl (by simp) h0
theorem ok_loopM {r : M (List PV)} {Q : Fl → S → Prop} : Okx E (loopM r i fa) s Q ↔ Okx E r s (fun xs s' => Okx E (forM i fa xs) s' Q) := by unfold loopM; exact ok_bnd
/-- a while, by a measure -/
theorem ok_while {t : M Bool} {body : M Fl} {Q : Fl → S → Prop} (I : Nat → S → Prop) {n m : Nat} (h0 : I m s) (hmn : m < n)
    (hs : ∀ (m : Nat) (s : S), I m s → Okx E t s (fun x s' => if x = true then Okx E body s' (fun fl s2 => flK Q (fun s3 => ∃ m', m' < m ∧ I m' s3) s2 fl) else Q .nx s')) : Okx E (whM t body n) s Q := by
  induction n generalizing m s with
  | zero => omega
  | succ n ih =>
    unfold whM
    rw [ok_bnd]
    refine (hs m s h0).imp fun x s1 q => ?_
    cases x with
    | false => exact q
    | true =>
      simp only [if_true] at q ⊢
      rcases Okx.two q with ⟨fl, s2, eb, q⟩ | ⟨z, s2, eb, q⟩
      case' inr =>
        unfold Okx
        simp only [eb]
        exact q
      unfold Okx
      cases fl with
      | nx =>
        simp only [eb]
        obtain ⟨m', hm', hI⟩ := q
        exact ih hI (by omega)
      | ct =>
        simp only [eb]
        obtain ⟨m', hm', hI⟩ := q
        exact ih hI (by omega)
      | bk => simp only [eb]; exact q
      | rt d => simp only [eb]; exact q
/-! ### comprehensions -/
theorem ok_lcM {r : M (List PV)} {vs : List Nat} {cond : M Bool} {Q : List PV → S → Prop} : Okx E (lcM r i vs cond ca) s Q ↔ Okx E r s (fun xs s' => Okx E (lcGo i vs cond ca xs []) ⟨wip s'.env vs, s'.sto⟩ Q) := by unfold lcM; exact ok_bnd
/-- by an invariant over the turn, what is made, the state -/
theorem ok_lcGo {vs : List Nat} {cond : M Bool} {elt : M PV} {xs : List PV} {Q : List PV → S → Prop} (I : Nat → List PV → S → Prop) (h0 : I 0 [] s)
    (hs : ∀ (k : Nat) (x : PV) (acc : List PV) (s : S), xs[k]? = some x → I k acc s → Ok cond ⟨s.env.set i (some (.val x)), s.sto⟩ (fun b s1 => if b = true then Ok elt s1 (fun y s2 => acc.length < sizeLine ∧ I (k + 1) (acc ++ [y]) ⟨wip s2.env vs, s2.sto⟩) else I (k + 1) acc ⟨wip s1.env vs, s1.sto⟩))
    (hd : ∀ acc s, I xs.length acc s → Q acc s) : Okx E (lcGo i vs cond elt xs []) s Q := by
  have key : ∀ (ys : List PV) (k : Nat) (acc : List PV) (s : S), xs.drop k = ys → k + ys.length = xs.length → I k acc s → Okx E (lcGo i vs cond elt ys acc) s Q := by
    intro ys
    induction ys with
    | nil =>
      intro k acc s e hl hI
      have hk : k = xs.length := by simpa using hl
      subst hk
      exact hd acc s hI
    | cons y ys ih =>
      intro k acc s e hl hI
      have hk : k < xs.length := by simp at hl; omega
      have e' := List.drop_eq_getElem_cons hk
      rw [e] at e'
      obtain ⟨e1, e2⟩ := List.cons.inj e'
      have hg : xs[k]? = some y := by rw [e1]; exact List.getElem?_eq_getElem hk
      obtain ⟨b, s1, ec, q⟩ := (hs k y acc s hg hI).ex
      have ec : cond { s with env := s.env.set i (some (.val y)) } = .ok b s1 := ec
      unfold Okx lcGo
      cases b with
      | false =>
        simp only [ec]
        exact ih (k + 1) acc _ e2.symm (by simp at hl; omega) q
      | true =>
        simp only [if_true] at q
        obtain ⟨z, s2, ee, q1, q2⟩ := Okx.ex q
        simp only [ec, ee, q1, if_true]
        exact ih (k + 1) (acc ++ [z]) _ e2.symm (by simp at hl; omega) q2
  exact key xs 0 [] s rfl (by simp) h0
end
end Dn
/-! Pl2: the operators' answers, a pen. -/
namespace Dn
open PySem
section
variable {s : S} {Q : PV → S → Prop} {QL : List PV → S → Prop} {a b : Int} {x y : Str} {xs ys : List PV} {E : PV → S → Prop}
theorem cmul_of (ha : a.natAbs < 2 ^ 200) (hb : b.natAbs < 2 ^ 200) : L2.CMulW a b := L2.wide_mul ha hb (by decide) (by decide) (by decide)
theorem cmul100 (ha : -1267650600228229401496703205376 ≤ a ∧ a ≤ 1267650600228229401496703205376) (hb : -1267650600228229401496703205376 ≤ b ∧ b ≤ 1267650600228229401496703205376) : L2.CMulW a b :=
  cmul_of (Nat.lt_of_le_of_lt (show a.natAbs ≤ 1267650600228229401496703205376 by omega) (by decide)) (Nat.lt_of_le_of_lt (show b.natAbs ≤ 1267650600228229401496703205376 by omega) (by decide))
theorem log_lt {n p : Nat} (h : n < 2 ^ p) (hp : 0 < p) : n.log2 < p := by
  by_cases h0 : n = 0
  · subst h0
    simpa using hp
  · exact (Nat.log2_lt h0).mpr h
theorem cdiv100 (h0 : 0 < b) (hb : b ≤ 1267650600228229401496703205376) : L2.CDivW a b := ⟨h0, Nat.lt_of_lt_of_le (log_lt (p := 200) (Nat.lt_of_le_of_lt (show b.natAbs ≤ 1267650600228229401496703205376 by omega) (by decide)) (by decide)) (by decide)⟩
theorem opt_if {c : Prop} [Decidable c] {d : PV} {R : PV → Prop} : (∃ a, (if c then some d else none) = some a ∧ R a) ↔ c ∧ R d := by
  by_cases h : c
  · simp only [if_pos h, h, true_and]; simp
  · simp only [if_neg h, h, false_and]; simp
theorem ok_add : Okx E (lft (addP (.int a) (.int b))) s Q ↔ Q (.int (a + b)) s := Iff.rfl
theorem ok_addS : Okx E (lft (addP (.str x) (.str y))) s Q ↔ x.length + y.length ≤ sizeLine ∧ Q (.str (x ++ y)) s := by
  exact ok_lft.trans opt_if
theorem ok_addT : Okx E (lft (addP (.tup xs) (.tup ys))) s Q ↔ xs.length + ys.length ≤ sizeLine ∧ Q (.tup (xs ++ ys)) s := by
  exact ok_lft.trans opt_if
theorem ok_addL : Okx E (lft (addP (.lst xs) (.lst ys))) s Q ↔ xs.length + ys.length ≤ sizeLine ∧ Q (.lst (xs ++ ys)) s := by
  exact ok_lft.trans opt_if
theorem ok_sub : Okx E (lft (subP (.int a) (.int b))) s Q ↔ Q (.int (a - b)) s := Iff.rfl
theorem ok_mul : Okx E (lft (mulP (.int a) (.int b))) s Q ↔ L2.CMulW a b ∧ Q (.int (a * b)) s := by
  exact ok_lft.trans opt_if
theorem ok_div : Okx E (lft (fdivP (.int a) (.int b))) s Q ↔ L2.CDivW a b ∧ Q (.int (a / b)) s := by
  exact ok_lft.trans opt_if
theorem ok_mod : Okx E (lft (modP (.int a) (.int b))) s Q ↔ 0 < b ∧ Q (.int (a % b)) s := by
  exact ok_lft.trans opt_if
theorem ok_pow : Okx E (lft (powP (.int a) (.int b))) s Q ↔ L2.CPow a b ∧ Q (.int (a ^ b.toNat)) s := by
  exact ok_lft.trans opt_if
theorem ok_rep {k : Int} : Okx E (lft (mulP (.lst xs) (.int k))) s Q ↔ ((-(2 ^ 63) ≤ k ∧ k < 2 ^ 63) ∧ xs.length * k.toNat ≤ sizeLine) ∧ Q (.lst (List.replicate k.toNat xs).flatten) s := by
  exact ok_lft.trans opt_if
theorem ok_ord {f : Int → Int → Bool} : Okx E (lft (ordP f (.int a) (.int b))) s Q ↔ Q (.bl (f a b)) s := Iff.rfl
theorem ok_fInt : Okx E (lft (intP (.int a))) s Q ↔ Q (.int a) s := Iff.rfl
theorem ok_fAbs : Okx E (lft (absP (.int a))) s Q ↔ Q (.int (if a < 0 then -a else a)) s := Iff.rfl
theorem ok_lenL : Okx E (lft (lenP (.lst xs))) s Q ↔ Q (.int xs.length) s := Iff.rfl
theorem ok_lenT : Okx E (lft (lenP (.tup xs))) s Q ↔ Q (.int xs.length) s := Iff.rfl
theorem ok_lenS : Okx E (lft (lenP (.str x))) s Q ↔ x.length ≤ sizeLine ∧ Q (.int x.length) s := by
  exact ok_lft.trans opt_if
theorem ok_fListL : Okx E (lft (listP (.lst xs))) s QL ↔ QL xs s := Iff.rfl
theorem ok_fListT : Okx E (lft (listP (.tup xs))) s QL ↔ QL xs s := Iff.rfl
theorem ok_fTupleL : Okx E (lft (tupleP (.lst xs))) s Q ↔ Q (.tup xs) s := Iff.rfl
theorem ok_fTupleT : Okx E (lft (tupleP (.tup xs))) s Q ↔ Q (.tup xs) s := Iff.rfl
theorem eqP_data {neg : Bool} {v w : PV} {d e : PyData} (hv : v.toD = some d) (hw : w.toD = some e) (h1 : SeqAt.shaped d = true) (h2 : SeqAt.shaped e = true) : eqP neg v w = some (.bl (if neg then !PyData.eqv d e else PyData.eqv d e)) := by
  unfold eqP
  split
  · rw [PV.toD] at hv hw
    cases hv
    cases hw
    simp [PyData.eqv]
  · simp [hv, hw, h1, h2]
theorem ok_eqD {neg : Bool} {v w : PV} {d e : PyData} (hv : v.toD = some d) (hw : w.toD = some e) (h1 : SeqAt.shaped d = true) (h2 : SeqAt.shaped e = true) : Okx E (lft (eqP neg v w)) s Q ↔ Q (.bl (if neg then !PyData.eqv d e else PyData.eqv d e)) s := by
  rw [ok_lft, eqP_data hv hw h1 h2]
  simp
theorem shaped_int {i : Int} : SeqAt.shaped (PyData.int i) = true := by unfold SeqAt.shaped; simp [PyData.canLay0, PyData.depth]
theorem shaped_bool {i : Bool} : SeqAt.shaped (PyData.bool i) = true := by unfold SeqAt.shaped; simp [PyData.canLay0, PyData.depth]
theorem ok_eqI {neg : Bool} : Okx E (lft (eqP neg (.int a) (.int b))) s Q ↔ Q (.bl (if neg then !(a == b) else a == b)) s := by
  have e : PyData.eqv (.int a) (.int b) = (a == b) := by simp [PyData.eqv]
  rw [ok_eqD (d := .int a) (e := .int b) (by rw [PV.toD]) (by rw [PV.toD]) shaped_int shaped_int, e]
theorem ok_eqS {neg : Bool} : Okx E (lft (eqP neg (.str x) (.str y))) s Q ↔ Q (.bl (if neg then !(x == y) else x == y)) s := by
  rw [ok_lft]
  unfold eqP
  simp
theorem ok_eqB {neg : Bool} {a b : Bool} : Okx E (lft (eqP neg (.bl a) (.bl b))) s Q ↔ Q (.bl (if neg then !(a == b) else a == b)) s := by
  have e : PyData.eqv (.bool a) (.bool b) = (a == b) := by simp [PyData.eqv]
  rw [ok_eqD (d := .bool a) (e := .bool b) (by rw [PV.toD]) (by rw [PV.toD]) shaped_bool shaped_bool, e]
/-- xs == [] -/
theorem ok_eqNil {neg : Bool} {ds : List PyData} (h : PV.toDs xs = some ds) (hs : SeqAt.shaped (.list ds) = true) : Okx E (lft (eqP neg (.lst xs) (.lst []))) s Q ↔ Q (.bl (if neg then !xs.isEmpty else xs.isEmpty)) s := by
  have e1 : (PV.lst xs).toD = some (.list ds) := by rw [PV.toD, h]; rfl
  have e2 : (PV.lst []).toD = some (.list []) := by rw [PV.toD, PV.toDs]; rfl
  have e3 : SeqAt.shaped (.list []) = true := by decide +kernel
  have e4 : PyData.eqv (.list ds) (.list []) = xs.isEmpty := by
    rw [PyData.eqv]
    cases xs with
    | nil => rw [PV.toDs] at h; cases h; rw [PyData.eqvAll]; rfl
    | cons z r =>
      rw [PV.toDs] at h
      split at h
      · cases h; rw [PyData.eqvAll]; rfl
      · cases h
  rw [ok_eqD e1 e2 hs e3, e4]
theorem toDs_ints (ns : List Int) : PV.toDs (ns.map PV.int) = some (ns.map PyData.int) := by
  induction ns with
  | nil => rw [List.map_nil, PV.toDs]; rfl
  | cons n r ih => rw [List.map_cons, PV.toDs, ih, PV.toD]; rfl
theorem canLay_ints (ns : List Int) : PyData.canLayAll0 (ns.map PyData.int) = true := by
  induction ns with
  | nil => rfl
  | cons n r ih => rw [List.map_cons, PyData.canLayAll0, ih, PyData.canLay0]; rfl
theorem depth_ints (ns : List Int) : PyData.depthAll (ns.map PyData.int) ≤ 1 := by
  induction ns with
  | nil => decide
  | cons n r ih =>
    rw [List.map_cons, PyData.depthAll, PyData.depth]
    omega
theorem shaped_list {ds : List PyData} (h1 : PyData.canLayAll0 ds = true) (h2 : PyData.depthAll ds ≤ 60) : SeqAt.shaped (.list ds) = true := by
  unfold SeqAt.shaped
  rw [PyData.canLay0, PyData.depth, h1]
  simp
  omega
theorem shaped_ints (ns : List Int) : SeqAt.shaped (.list (ns.map PyData.int)) = true := shaped_list (canLay_ints ns) (Nat.le_trans (depth_ints ns) (by decide))
theorem ok_prsN {QK : List (L2.Key × PV) → S → Prop} : Okx E (prsM []) s QK ↔ QK [] s := Iff.rfl
theorem ok_prsC {k : Str} {c : M PV} {r : List (Str × M PV)} {QK : List (L2.Key × PV) → S → Prop} : Okx E (prsM ((k, c) :: r)) s QK ↔ Okx E c s (fun d s' => Okx E (prsM r) s' (fun ds s2 => QK ((.inr k, d) :: ds) s2)) := by
  show Okx E (bnd c fun d => bnd (prsM r) fun ds => ret ((.inr k, d) :: ds)) s QK ↔ _
  rw [ok_bnd]
  exact ⟨fun h => h.imp fun a s' q => ok_bnd.mp q, fun h => h.imp fun a s' q => ok_bnd.mpr q⟩
theorem ok_dispM {kcs : List (Str × M PV)} : Okx E (dispM kcs) s Q ↔ Okx E (prsM kcs) s (fun kvs s' => kvs.length ≤ 15 ∧ Q (.hnd s'.sto.length) ⟨s'.env, s'.sto ++ [.dic (mergeP [] kvs)]⟩) := by
  unfold dispM
  rw [ok_bnd]
  have key : ∀ (kvs : List (L2.Key × PV)) (s' : S), Okx E (fun s : S => if kvs.length ≤ 15 then Res.ok (PV.hnd s.sto.length) { s with sto := s.sto ++ [.dic (mergeP [] kvs)] } else .stk) s' Q ↔ (kvs.length ≤ 15 ∧ Q (.hnd s'.sto.length) ⟨s'.env, s'.sto ++ [.dic (mergeP [] kvs)]⟩) := fun kvs s' => by
    unfold Okx
    by_cases h : kvs.length ≤ 15
    · simp [h]
    · simp [h]
  exact ⟨fun h => h.imp fun a s' q => (key a s').mp q, fun h => h.imp fun a s' q => (key a s').mpr q⟩
end
/-! ### a pen: the script's cells, how many were begun, what is left -/
section
variable {kc kb kl : Str} {cells : List Int} {b l v : Int} {E : PV → S → Prop}
def penD (kc kb kl : Str) (cells : List Int) (b l : Int) : List (L2.Key × PV) := [(.inr kc, .lst (cells.map .int)), (.inr kb, .int b), (.inr kl, .int l)]
structure Keys3 (kc kb kl : Str) : Prop where
  cb : kc ≠ kb
  cl : kc ≠ kl
  bl : kb ≠ kl
theorem pen_c : valP (penD kc kb kl cells b l) (.inr kc) = some (.lst (cells.map .int)) := by
  unfold valP penD
  simp
theorem pen_b (h : Keys3 kc kb kl) : valP (penD kc kb kl cells b l) (.inr kb) = some (.int b) := by
  unfold valP penD
  simp [List.find?_cons, h.cb]
theorem pen_l (h : Keys3 kc kb kl) : valP (penD kc kb kl cells b l) (.inr kl) = some (.int l) := by
  unfold valP penD
  simp [List.find?_cons, h.cl, h.bl]
theorem pen_put_b (h : Keys3 kc kb kl) : putP (penD kc kb kl cells b l) (.inr kb) (.int v) = penD kc kb kl cells v l := by
  unfold putP penD
  simp [h.cb, h.bl.symm]
theorem pen_put_l (h : Keys3 kc kb kl) : putP (penD kc kb kl cells b l) (.inr kl) (.int v) = penD kc kb kl cells b v := by
  unfold putP penD
  simp [h.cl, h.bl]
theorem pen_new (h : Keys3 kc kb kl) : mergeP [] [(.inr kc, .lst (cells.map .int)), (.inr kb, .int b), (.inr kl, .int l)] = penD kc kb kl cells b l := by
  unfold mergeP putP penD
  simp [h.cb, h.cl, h.bl]
end
end Dn
/-! Pl3: more answers: subscripts, unpacking, sorting, membership, blocks that answer somehow. -/
namespace Dn
open PySem
section
variable {s : S} {Q : PV → S → Prop} {QL : List PV → S → Prop} {QF : Fl → S → Prop} {a b : Int} {x y : Str} {xs ys : List PV} {i j : Nat} {ca : M PV} {E : PV → S → Prop}
theorem ok_ixL {k : Int} : Okx E (lft (ixP (.lst xs) (.int k))) s Q ↔ ∃ v, L2.atI xs k = some v ∧ Q v s := ok_lft
theorem ok_ixT {k : Int} : Okx E (lft (ixP (.tup xs) (.int k))) s Q ↔ ∃ v, L2.atI xs k = some v ∧ Q v s := ok_lft
theorem ok_ixS {k : Int} (hx : x.length ≤ sizeLine) : Okx E (lft (ixP (.str x) (.int k))) s Q ↔ ∃ c, L2.atI x.cps.toList k = some c ∧ Q (.str ⟨#[c]⟩) s := by
  rw [ok_lft]
  simp only [ixP, if_pos hx]
  constructor
  · rintro ⟨v, h1, h2⟩
    obtain ⟨c, e, rfl⟩ := Option.map_eq_some_iff.mp h1
    exact ⟨c, e, h2⟩
  · rintro ⟨c, e, h2⟩
    exact ⟨_, by rw [e]; rfl, h2⟩
theorem atI_in {α : Type} {ds : List α} {k : Int} (h0 : 0 ≤ k) (h1 : k < ds.length) : ∃ v, L2.atI ds k = some v ∧ v ∈ ds := by
  obtain ⟨m, rfl⟩ := Int.eq_ofNat_of_zero_le h0
  have hm : m < ds.length := by simpa using h1
  exact ⟨ds[m], L2.atI_nat (List.getElem?_eq_getElem hm), List.getElem_mem hm⟩
def unpK (E : PV → S → Prop) (is : List Nat) (s : S) (Q : Fl → S → Prop) : PV → Prop
  | .tup xs => xs.length = is.length ∧ Okx E (setAll is xs) s Q
  | _ => False
theorem ok_unp {is : List Nat} : Okx E (unpM is ca) s QF ↔ Okx E ca s (fun d s' => unpK E is s' QF d) := by
  unfold unpM
  rw [ok_bnd]
  refine ⟨fun h => h.imp fun a s' q => ?_, fun h => h.imp fun a s' q => ?_⟩ <;> cases a <;> try exact q
  · rename_i zs
    by_cases hl : zs.length = is.length
    · have q : Okx E (if zs.length = is.length then setAll is zs else stuck) s' QF := q
      rw [if_pos hl] at q
      exact ⟨hl, q⟩
    · have q : Okx E (if zs.length = is.length then setAll is zs else stuck) s' QF := q
      rw [if_neg hl] at q
      exact q.elim
  · rename_i zs
    show Okx E (if zs.length = is.length then setAll is zs else stuck) s' QF
    rw [if_pos q.1]
    exact q.2
theorem unpK_tup {is : List Nat} : unpK E is s QF (.tup xs) ↔ xs.length = is.length ∧ Okx E (setAll is xs) s QF := Iff.rfl
theorem ok_set0 : Okx E (setAll [] []) s QF ↔ QF .nx s := Iff.rfl
theorem ok_setC {is : List Nat} {d : PV} {env : Env} {st : List MO} : Okx E (setAll (i :: is) (d :: xs)) ⟨env, st⟩ QF ↔ Okx E (setAll is xs) ⟨env.set i (some (.val d)), st⟩ QF := by
  show Okx E (bnd (setV i d) fun _ => setAll is xs) ⟨env, st⟩ QF ↔ _
  rw [ok_bnd]
  exact Iff.rfl
theorem ok_allL {bs : List Bool} : Okx E (lft (allP (.lst (bs.map .bl)))) s Q ↔ Q (.bl (bs.all id)) s := by
  rw [ok_lft]; simp [allP, blsOf_map]
/-! ### data that can be shown and compared -/
structure GdD (n w : Nat) (d : PyData) : Prop where
  lay : d.canLay0 = true
  show' : d.showable = true
  short : d.intsShort 13 = true
  dep : d.depth ≤ n
  wt : d.weight ≤ w
structure GdA (n w : Nat) (ds : List PyData) : Prop where
  lay : PyData.canLayAll0 ds = true
  show' : PyData.showableAll ds = true
  short : PyData.intsShortAll 13 ds = true
  dep : PyData.depthAll ds ≤ n
  wt : PyData.weightAll ds ≤ w
def Gd (n w : Nat) (v : PV) : Prop := ∃ d, v.toD = some d ∧ GdD n w d
theorem GdD.mono {n w n' w' : Nat} {d : PyData} (h : GdD n w d) (hn : n ≤ n') (hw : w ≤ w') : GdD n' w' d := ⟨h.lay, h.show', h.short, Nat.le_trans h.dep hn, Nat.le_trans h.wt hw⟩
theorem Gd.mono {n w n' w' : Nat} {v : PV} (h : Gd n w v) (hn : n ≤ n') (hw : w ≤ w') : Gd n' w' v := by
  obtain ⟨d, e, g⟩ := h
  exact ⟨d, e, g.mono hn hw⟩
theorem GdA.shaped {n w : Nat} {ds : List PyData} (h : GdA n w ds) (hn : n ≤ 60) : SeqAt.shaped (.list ds) = true := shaped_list h.lay (Nat.le_trans h.dep hn)
theorem GdD.shaped {n w : Nat} {d : PyData} (h : GdD n w d) (hn : n ≤ 60) : SeqAt.shaped d = true := by
  have h2 : d.depth ≤ 60 := Nat.le_trans h.dep hn
  unfold SeqAt.shaped
  rw [h.lay]
  simp
  omega
/-! ### texts: valid ones -/
def sOk (w : Nat) (x : Str) : Prop := PyData.strOk x = true ∧ x.length ≤ w
theorem sOk.mono {w w' : Nat} (hx : sOk w x) (h : w ≤ w') : sOk w' x := ⟨hx.1, Nat.le_trans hx.2 h⟩
/-! ### an answer as an equation -/
theorem OkFx.eq {r : RR} {d : PV} {st : List MO} (h : OkF r (fun b t => b = d ∧ t = st)) : r = .ok d st := by
  obtain ⟨b, t, e, rfl, rfl⟩ := h.ex
  exact e
theorem OkFx.of {r : RR} {d : PV} {st : List MO} {Q : PV → List MO → Prop} (e : r = .ok d st) (h : Q d st) : OkF r Q := by rw [e]; exact h
theorem flK_nx {N : S → Prop} : flK QF N s .nx ↔ N s := Iff.rfl
theorem flK_ct {N : S → Prop} : flK QF N s .ct ↔ N s := Iff.rfl
theorem flK_bk {N : S → Prop} : flK QF N s .bk ↔ QF .nx s := Iff.rfl
theorem flK_rt {N : S → Prop} {d : PV} : flK QF N s (.rt d) ↔ QF (.rt d) s := Iff.rfl
theorem sl_L {lo hi : Option Int} {R : PV → Prop} : (∃ z, slP (.lst xs) lo hi = some z ∧ R z) ↔ R (.lst (cutP xs lo hi)) := by simp [slP]
theorem sl_T {lo hi : Option Int} {R : PV → Prop} : (∃ z, slP (.tup xs) lo hi = some z ∧ R z) ↔ R (.tup (cutP xs lo hi)) := by simp [slP]
theorem sl_S {lo hi : Option Int} {R : PV → Prop} : (∃ z, slP (.str x) lo hi = some z ∧ R z) ↔ x.length ≤ sizeLine ∧ R (.str (L2.cutS x lo hi)) := by
  show (∃ z, (if x.length ≤ sizeLine then some (PV.str (L2.cutS x lo hi)) else none) = some z ∧ R z) ↔ _
  exact opt_if
theorem it_L {R : List PV → Prop} : (∃ z, itemsP (.lst xs) = some z ∧ R z) ↔ R xs := by simp [itemsP]
theorem it_T {R : List PV → Prop} : (∃ z, itemsP (.tup xs) = some z ∧ R z) ↔ R xs := by simp [itemsP]
/-! ### own lists -/
theorem ok_chkO {env : Env} {st : List MO} {QU : Unit → S → Prop} : Okx E (chkO i) ⟨env, st⟩ QU ↔ (∃ zs, env[i]? = some (some (.own zs))) ∧ QU () ⟨env, st⟩ := by
  unfold Okx chkO
  dsimp only
  rcases env[i]? with _ | _ | sv
  · exact ⟨fun h => h.elim, fun ⟨⟨_, h⟩, _⟩ => nomatch h⟩
  · exact ⟨fun h => h.elim, fun ⟨⟨_, h⟩, _⟩ => nomatch h⟩
  · cases sv with
    | val => exact ⟨fun h => h.elim, fun ⟨⟨_, h⟩, _⟩ => nomatch h⟩
    | own zs => exact ⟨fun h => ⟨⟨zs, rfl⟩, h⟩, fun h => h.2⟩
theorem ok_app {env : Env} {st : List MO} : Okx E (appM i ca) ⟨env, st⟩ Q ↔ (∃ zs, env[i]? = some (some (.own zs))) ∧ Okx E ca ⟨env, st⟩ (fun d s' => Okx E (pushM i d) s' Q) := by
  unfold appM
  rw [ok_bnd, ok_chkO, ok_bnd]
theorem ok_push {env : Env} {st : List MO} {d : PV} {zs : List PV} (h : env[i]? = some (some (.own zs))) (hl : zs.length < sizeLine) : Okx E (pushM i d) ⟨env, st⟩ Q ↔ Q .non ⟨env.set i (some (.own (zs ++ [d]))), st⟩ := by
  unfold Okx pushM
  simp only [h, hl, if_true]
/-! ### blocks that answer somehow -/
/-- with every turn making one thing -/
theorem ok_lcEach {vs : List Nat} {elt : M PV} {zs : List PV} {env : Env} {st : List MO} (I : Nat → List MO → Prop) (R : PV → Prop) (hw : wip env vs = env) (hi : i ∈ vs) (hl : zs.length ≤ sizeLine) (h0 : I 0 st)
    (hwi : ∀ x : PV, wip (env.set i (some (.val x))) vs = env)
    (hc : ∀ k x st, zs[k]? = some x → I k st → Ok elt ⟨env.set i (some (.val x)), st⟩ (fun y s2 => s2.env = env.set i (some (.val x)) ∧ R y ∧ I (k + 1) s2.sto))
    (hd : ∀ ys st', ys.length = zs.length → (∀ y ∈ ys, R y) → I zs.length st' → QL ys ⟨env, st'⟩) : Okx E (lcGo i vs (ret true) elt zs []) ⟨env, st⟩ QL := by
  refine ok_lcGo (fun k acc s => k ≤ zs.length ∧ s.env = env ∧ I k s.sto ∧ acc.length = k ∧ ∀ y ∈ acc, R y) ⟨Nat.zero_le _, rfl, h0, rfl, fun y h => by cases h⟩ ?_ ?_
  · rintro k x acc ⟨env', st'⟩ hx ⟨hk, rfl, hI, hla, hR⟩
    have hk' : k < zs.length := (List.getElem?_eq_some_iff.mp hx).1
    show Ok elt _ _
    refine (hc k x st' hx hI).imp fun y s2 q2 => ⟨by omega, hk', by rw [q2.1, hwi], q2.2.2, by simp; omega, fun z hz => ?_⟩
    rcases List.mem_append.mp hz with hz | hz
    · exact hR z hz
    · rw [List.mem_singleton.mp hz]
      exact q2.2.1
  · rintro acc ⟨env', st'⟩ ⟨_, rfl, hI, hla, hR⟩
    exact hd acc st' hla hR hI
/-- a typed filter and map: nothing changes -/
theorem ok_lcT {α : Type} {vs : List Nat} {cond : M Bool} {elt : M PV} {as : List α} (g : α → PV) {env : Env} {st : List MO} (p : α → Bool) (f : α → PV) (hw : wip env vs = env) (hi : i ∈ vs) (hl : as.length ≤ sizeLine)
    (hwi : ∀ x : PV, wip (env.set i (some (.val x))) vs = env)
    (hc : ∀ a ∈ as, Ok cond ⟨env.set i (some (.val (g a))), st⟩ (fun b s1 => b = p a ∧ s1 = ⟨env.set i (some (.val (g a))), st⟩))
    (he : ∀ a ∈ as, p a = true → Ok elt ⟨env.set i (some (.val (g a))), st⟩ (fun y s1 => y = f a ∧ s1 = ⟨env.set i (some (.val (g a))), st⟩))
    (hd : QL ((as.filter p).map f) ⟨env, st⟩) : Okx E (lcGo i vs cond elt (as.map g) []) ⟨env, st⟩ QL := by
  refine ok_lcGo (fun k acc s => s = ⟨env, st⟩ ∧ acc = ((as.take k).filter p).map f) ⟨rfl, by simp⟩ ?_ ?_
  · rintro k x acc s' hx ⟨rfl, rfl⟩
    rw [List.getElem?_map] at hx
    obtain ⟨a, hx2, rfl⟩ := Option.map_eq_some_iff.mp hx
    clear hx
    have hx := hx2
    have hm : a ∈ as := List.mem_of_getElem? hx
    have hk : k < as.length := (List.getElem?_eq_some_iff.mp hx).1
    have ht : as.take (k + 1) = as.take k ++ [a] := by
      rw [List.take_succ, hx]
      rfl
    refine (hc a hm).imp fun b s1 q => ?_
    obtain ⟨rfl, rfl⟩ := q
    cases hp : p a with
    | true =>
      simp only [if_true]
      refine (he a hm hp).imp fun y s2 q => ?_
      obtain ⟨rfl, rfl⟩ := q
      refine ⟨?_, by simp only [hwi], ?_⟩
      · refine Nat.lt_of_lt_of_le ?_ hl
        rw [List.length_map]
        exact Nat.lt_of_le_of_lt (List.length_filter_le _ _) (by rw [List.length_take]; omega)
      · rw [ht, List.filter_append, List.map_append, List.filter_cons, hp]
        rfl
    | false =>
      simp only [Bool.false_eq_true, if_false]
      refine ⟨by simp only [hwi], ?_⟩
      rw [ht, List.filter_append, List.map_append, List.filter_cons, hp]
      simp
  · rintro acc s' ⟨rfl, rfl⟩
    rw [List.length_map, List.take_length]
    exact hd
theorem ex_map {α : Type} {f : α → PV} {P : α → Prop} : ∀ {ys : List PV}, (∀ y ∈ ys, ∃ a, y = f a ∧ P a) → ∃ as : List α, ys = as.map f ∧ ∀ a ∈ as, P a
  | [], _ => ⟨[], rfl, fun a h => by cases h⟩
  | y :: ys, h => by
    obtain ⟨a, rfl, ha⟩ := h y List.mem_cons_self
    obtain ⟨as, rfl, h2⟩ := ex_map fun z hz => h z (List.mem_cons_of_mem _ hz)
    exact ⟨a :: as, rfl, fun b hb => by
      rcases List.mem_cons.mp hb with rfl | hb
      · exact ha
      · exact h2 b hb⟩
end
end Dn
/-! Pl4: cuts, joined texts, ranges, lots of titles. -/
namespace Dn
open PySem
section
variable {s : S} {Q : PV → S → Prop} {QL : List PV → S → Prop} {QF : Fl → S → Prop} {a b : Int} {x y : Str} {xs ys : List PV} {i j : Nat} {ca : M PV} {E : PV → S → Prop}
theorem sum_le {w : Nat} : ∀ {zs : List Str}, (∀ z ∈ zs, z.length ≤ w) → (zs.map (·.length)).sum ≤ zs.length * w
  | [], _ => Nat.zero_le _
  | z :: zs, h => by
    have h1 := h z List.mem_cons_self
    have h2 := sum_le fun z hz => h z (List.mem_cons_of_mem _ hz)
    rw [List.map_cons, List.sum_cons, List.length_cons, Nat.add_mul]
    omega
theorem joinP_map {zs : List Str} (h : (zs.map (·.length)).sum + zs.length * x.length ≤ 16777216) : joinP x (.lst (zs.map .str)) = some (.str (Txt.join x zs)) := by
  unfold joinP
  simp [strsOf_map, h]
theorem rngP_nat {k : Int} (h0 : 0 ≤ k) (h1 : k < 2 ^ 62) : rngP (.int k) = some ((List.range k.toNat).map fun (k : Nat) => PV.int (0 + (k : Int))) := by
  have : -(2 ^ 62) ≤ k ∧ k < 2 ^ 62 := by omega
  simp only [rngP, if_pos this]
theorem rng_get {k : Int} {t : Nat} {v : PV} (h : ((List.range k.toNat).map fun (k : Nat) => PV.int (0 + (k : Int)))[t]? = some v) : v = .int t ∧ (t : Int) < k := by
  rw [List.getElem?_map] at h
  obtain ⟨u, h1, rfl⟩ := Option.map_eq_some_iff.mp h
  obtain ⟨h2, h3⟩ := List.getElem?_eq_some_iff.mp h1
  rw [List.length_range] at h2
  rw [List.getElem_range] at h3
  subst h3
  refine ⟨by simp, by omega⟩
theorem rng_len {k : Int} : ((List.range k.toNat).map fun (k : Nat) => PV.int (0 + (k : Int))).length = k.toNat := by simp
theorem ones_fold : ∀ (ps : List Str) (acc : Array Nat), (∀ z ∈ ps, z.length = 1) → (ps.foldl (fun acc p => acc ++ (Str.ofString "").cps ++ p.cps) acc).size = acc.size + ps.length
  | [], acc, _ => rfl
  | p :: ps, acc, h => by
    rw [List.foldl_cons, ones_fold ps _ fun z hz => h z (List.mem_cons_of_mem _ hz), Array.size_append, Array.size_append]
    have e1 : (Str.ofString "").cps.size = 0 := rfl
    have e2 : p.cps.size = 1 := h p List.mem_cons_self
    rw [e1, e2, List.length_cons]
    omega
theorem join_one : ∀ zs : List Str, (∀ z ∈ zs, z.length = 1) → (Txt.join (Str.ofString "") zs).length = zs.length
  | [], _ => rfl
  | z :: r, h => by
    show (r.foldl (fun acc p => acc ++ (Str.ofString "").cps ++ p.cps) z.cps).size = _
    rw [ones_fold r _ fun y hy => h y (List.mem_cons_of_mem _ hy), List.length_cons]
    have e2 : z.cps.size = 1 := h z List.mem_cons_self
    omega
/-! ### lots: titles in tuples -/
end
end Dn
/-! Pl5: filters that answer somehow; lots of titles. -/
namespace Dn
open PySem
section
variable {s : S} {Q : PV → S → Prop} {QL : List PV → S → Prop} {i : Nat} {E : PV → S → Prop}
def Lt (l : List Str) : Prop := l.length ≤ 7 ∧ ∀ x ∈ l, sOk 40 x
def Ls (m : Nat) (ls : List (List Str)) : Prop := ls.length ≤ m ∧ ∀ l ∈ ls, Lt l
theorem Ls.mono {m m' : Nat} {ls : List (List Str)} (h : Ls m ls) (hm : m ≤ m') : Ls m' ls := ⟨Nat.le_trans h.1 hm, h.2⟩
theorem Ls.sub {m : Nat} {ls ls' : List (List Str)} (h : Ls m ls) (hl : ls'.length ≤ ls.length) (hs : ∀ l ∈ ls', l ∈ ls) : Ls m ls' := ⟨Nat.le_trans hl h.1, fun l hm => h.2 l (hs l hm)⟩
theorem filter_true {α : Type} (l : List α) : l.filter (fun _ => true) = l := List.filter_eq_self.mpr fun _ _ => rfl
theorem ok_seq {fa fb : M Fl} {Q : Fl → S → Prop} (h : Okx E fa s (fun fl s' => seqK E fb s' Q fl)) : Okx E (seqM fa fb) s Q := ok_seqM.mpr h
theorem ok_allM {α : Type} {p : α → Bool} {as : List α} : Okx E (lft (allP (.lst (as.map fun a => .bl (p a))))) s Q ↔ Q (.bl (as.all p)) s := by
  have e : (as.map fun a => PV.bl (p a)) = (as.map p).map PV.bl := by rw [List.map_map]; rfl
  rw [e, ok_allL, List.all_map]
  rfl
theorem Ls.app {m k : Nat} {a b : List (List Str)} (h1 : Ls m a) (h2 : Ls k b) : Ls (m + k) (a ++ b) := ⟨by rw [List.length_append]; exact Nat.add_le_add h1.1 h2.1, fun l hl => by
  rcases List.mem_append.mp hl with hl | hl
  · exact h1.2 l hl
  · exact h2.2 l hl⟩
end
end Dn
/-! Pl6: more answers: objects, methods, exceptions. -/
namespace Dn
open PySem
section
variable {s : S} {Q : PV → S → Prop} {QL : List PV → S → Prop} {QF : Fl → S → Prop} {a b : Int} {x y : Str} {xs ys : List PV} {i j n : Nat} {ca cb cc : M PV} {ra rb : M (List PV)} {fa fb : M Fl} {E : PV → S → Prop} {env : Env} {st : List MO} {m : Fn} {ds : List PV}
theorem okF_ok {EF : PV → List MO → Prop} {Q : PV → List MO → Prop} {d : PV} : OkFx EF (.ok d st) Q ↔ Q d st := Iff.rfl
theorem okF_exc {EF : PV → List MO → Prop} {Q : PV → List MO → Prop} {d : PV} : OkFx EF (.exc d st) Q ↔ EF d st := Iff.rfl
theorem ok_runM : Okx E (runM m n ds) s Q ↔ OkFx (fun e st => E e ⟨s.env, st⟩) (m n ds s.sto) (fun d st => Q d ⟨s.env, st⟩) := by
  unfold Okx OkFx runM
  dsimp only
  cases m n ds s.sto <;> exact Iff.rfl
theorem ok_appA : Okx E (appA i j ra rb) s QL ↔ Okx E ra s (fun a s1 => Okx E rb s1 (fun b s2 => (a.length = i ∧ b.length = j) ∧ QL (a ++ b) s2)) := by
  unfold appA
  rw [ok_bnd]
  have key : ∀ (a b : List PV) (s : S), Okx E (if a.length = i ∧ b.length = j then ret (a ++ b) else stuck) s QL ↔ (a.length = i ∧ b.length = j) ∧ QL (a ++ b) s := fun a b s => by
    by_cases h : a.length = i ∧ b.length = j
    · rw [if_pos h]; exact ⟨fun q => ⟨h, q⟩, fun q => q.2⟩
    · rw [if_neg h]; exact ⟨fun q => q.elim, fun q => (h q.1).elim⟩
  exact ⟨fun h => h.imp fun a s1 q => (ok_bnd.mp q).imp fun b s2 q => (key a b s2).mp q, fun h => h.imp fun a s1 q => ok_bnd.mpr (q.imp fun b s2 q => (key a b s2).mpr q)⟩
theorem ok_len1 : Okx E (bnd ra fun ds => if ds.length = i then ret ds else stuck) s QL ↔ Okx E ra s (fun ds s1 => ds.length = i ∧ QL ds s1) := by
  rw [ok_bnd]
  have key : ∀ (a : List PV) (s : S), Okx E (if a.length = i then ret a else stuck) s QL ↔ a.length = i ∧ QL a s := fun a s => by
    by_cases h : a.length = i
    · rw [if_pos h]; exact ⟨fun q => ⟨h, q⟩, fun q => q.2⟩
    · rw [if_neg h]; exact ⟨fun q => q.elim, fun q => (h q.1).elim⟩
  exact ⟨fun h => h.imp fun a s1 q => (key a s1).mp q, fun h => h.imp fun a s1 q => (key a s1).mpr q⟩
def starK (E : PV → S → Prop) (r : M (List PV)) (s : S) (Q : List PV → S → Prop) : PV → Prop
  | .tup xs => Okx E r s (fun ys s2 => Q (xs ++ ys) s2)
  | .lst xs => Okx E r s (fun ys s2 => Q (xs ++ ys) s2)
  | _ => False
theorem starK_tup : starK E ra s QL (.tup xs) ↔ Okx E ra s (fun ys s2 => QL (xs ++ ys) s2) := Iff.rfl
theorem starK_lst : starK E ra s QL (.lst xs) ↔ Okx E ra s (fun ys s2 => QL (xs ++ ys) s2) := Iff.rfl
theorem ok_argS : Okx E (argS ca ra) s QL ↔ Okx E ca s (fun d s1 => starK E ra s1 QL d) := by
  unfold argS
  rw [ok_bnd]
  refine ⟨fun h => h.imp fun a s' q => ?_, fun h => h.imp fun a s' q => ?_⟩ <;> cases a <;> first | exact q | exact (ok_bnd.mp q) | exact ok_bnd.mpr q
theorem ok_chain {f g : PV → PV → M PV} : Okx E (chainM f g ca cb cc) s Q ↔ Okx E ca s (fun a s1 => Okx E cb s1 (fun b s2 => Okx E (f a b) s2 (fun d s3 => blK s3 (fun x => if x = true then Okx E cc s3 (fun c s4 => Okx E (g b c) s4 Q) else Q (.bl false) s3) d))) := by
  unfold chainM
  rw [ok_bnd]
  have key : ∀ (b d : PV) (s : S), Okx E (match d with
    | .bl true => bnd cc fun c => g b c
    | .bl false => ret (.bl false)
    | _ => stuck : M PV) s Q ↔ blK s (fun x => if x = true then Okx E cc s (fun c s4 => Okx E (g b c) s4 Q) else Q (.bl false) s) d := fun b d s => by
    cases d <;> try exact Iff.rfl
    rename_i z
    cases z
    · exact Iff.rfl
    · exact ok_bnd
  exact ⟨fun h => h.imp fun a s1 q => (ok_bnd.mp q).imp fun b s2 q => (ok_bnd.mp q).imp fun d s3 q => (key b d s3).mp q,
    fun h => h.imp fun a s1 q => ok_bnd.mpr (q.imp fun b s2 q => ok_bnd.mpr (q.imp fun d s3 q => (key b d s3).mpr q))⟩
def isNonB : PV → Bool
  | .non => true
  | _ => false
theorem isNonB_non : isNonB .non = true := rfl
theorem isNonB_int : isNonB (.int a) = false := rfl
theorem isNonB_bl {b : Bool} : isNonB (.bl b) = false := rfl
theorem isNonB_str : isNonB (.str x) = false := rfl
theorem isNonB_tup : isNonB (.tup xs) = false := rfl
theorem isNonB_lst : isNonB (.lst xs) = false := rfl
theorem isNonB_obj {c : Str} {ks : List Str} : isNonB (.obj c ks xs) = false := rfl
theorem ok_isN {neg : Bool} : Okx E (isN neg ca) s Q ↔ Okx E ca s (fun d s1 => Q (.bl (isNonB d != neg)) s1) := by
  unfold isN
  rw [ok_bnd]
  refine ⟨fun h => h.imp fun a s' q => ?_, fun h => h.imp fun a s' q => ?_⟩ <;> cases a <;> cases neg <;> exact q
theorem ok_max : Okx E (lft (maxP (.int a) (.int b))) s Q ↔ Q (.int (max a b)) s := by
  have e : (if b > a then b else a) = max a b := by rw [Int.max_def]; split <;> split <;> omega
  rw [ok_lft, ← e]
  simp [maxP]
theorem ok_min : Okx E (lft (minP (.int a) (.int b))) s Q ↔ Q (.int (min a b)) s := by
  have e : (if b < a then b else a) = min a b := by rw [Int.min_def]; split <;> split <;> omega
  rw [ok_lft, ← e]
  simp [minP]
/-! isinstance of built-in types -/
theorem isi_of {t nm : String} {d : PV} {r : Bool} (h : tyP d = some t) (k : L2.kitB t nm = some r) : Okx E (lft (isiP nm d)) s Q ↔ Q (.bl r) s := by
  rw [ok_lft]
  simp [isiP, h, k]
theorem isi_int_int : Okx E (lft (isiP "int" (.int a))) s Q ↔ Q (.bl true) s := isi_of rfl (by decide +kernel)
theorem isi_int_bl {b : Bool} : Okx E (lft (isiP "int" (.bl b))) s Q ↔ Q (.bl true) s := isi_of rfl (by decide +kernel)
theorem isi_int_non : Okx E (lft (isiP "int" .non)) s Q ↔ Q (.bl false) s := isi_of rfl (by decide +kernel)
theorem isi_int_str : Okx E (lft (isiP "int" (.str x))) s Q ↔ Q (.bl false) s := isi_of rfl (by decide +kernel)
theorem isi_int_tup : Okx E (lft (isiP "int" (.tup xs))) s Q ↔ Q (.bl false) s := isi_of rfl (by decide +kernel)
theorem isi_int_lst : Okx E (lft (isiP "int" (.lst xs))) s Q ↔ Q (.bl false) s := isi_of rfl (by decide +kernel)
theorem isi_bool_int : Okx E (lft (isiP "bool" (.int a))) s Q ↔ Q (.bl false) s := isi_of rfl (by decide +kernel)
theorem isi_bool_bl {b : Bool} : Okx E (lft (isiP "bool" (.bl b))) s Q ↔ Q (.bl true) s := isi_of rfl (by decide +kernel)
theorem isi_str_str : Okx E (lft (isiP "str" (.str x))) s Q ↔ Q (.bl true) s := isi_of rfl (by decide +kernel)
theorem isi_str_int : Okx E (lft (isiP "str" (.int a))) s Q ↔ Q (.bl false) s := isi_of rfl (by decide +kernel)
theorem isi_str_bl {b : Bool} : Okx E (lft (isiP "str" (.bl b))) s Q ↔ Q (.bl false) s := isi_of rfl (by decide +kernel)
theorem isi_str_non : Okx E (lft (isiP "str" .non)) s Q ↔ Q (.bl false) s := isi_of rfl (by decide +kernel)
theorem isi_str_tup : Okx E (lft (isiP "str" (.tup xs))) s Q ↔ Q (.bl false) s := isi_of rfl (by decide +kernel)
theorem isi_str_lst : Okx E (lft (isiP "str" (.lst xs))) s Q ↔ Q (.bl false) s := isi_of rfl (by decide +kernel)
theorem isi_tuple_tup : Okx E (lft (isiP "tuple" (.tup xs))) s Q ↔ Q (.bl true) s := isi_of rfl (by decide +kernel)
theorem isi_tuple_int : Okx E (lft (isiP "tuple" (.int a))) s Q ↔ Q (.bl false) s := isi_of rfl (by decide +kernel)
theorem isi_tuple_bl {b : Bool} : Okx E (lft (isiP "tuple" (.bl b))) s Q ↔ Q (.bl false) s := isi_of rfl (by decide +kernel)
theorem isi_tuple_non : Okx E (lft (isiP "tuple" .non)) s Q ↔ Q (.bl false) s := isi_of rfl (by decide +kernel)
theorem isi_tuple_str : Okx E (lft (isiP "tuple" (.str x))) s Q ↔ Q (.bl false) s := isi_of rfl (by decide +kernel)
theorem isi_tuple_lst : Okx E (lft (isiP "tuple" (.lst xs))) s Q ↔ Q (.bl false) s := isi_of rfl (by decide +kernel)
/-! ### fields -/
def fldV (cs : List Str) (f : Str) (s : S) (d : PV) : Option PV := match insOf s d with
  | some (c, ks, vs) => if c ∈ cs then (ks.zip vs).lookup f else none
  | none => none
theorem ok_fldM {cs : List Str} {f : Str} {d : PV} : Okx E (fldM cs f d) s Q ↔ ∃ v, fldV cs f s d = some v ∧ Q v s := by
  unfold Okx fldM fldV
  cases insOf s d with
  | none => exact ⟨fun h => h.elim, fun ⟨_, h, _⟩ => nomatch h⟩
  | some t =>
    obtain ⟨c, ks, vs⟩ := t
    dsimp only
    by_cases h : c ∈ cs
    · rw [if_pos h, if_pos h]
      cases (ks.zip vs).lookup f with
      | none => exact ⟨fun h => h.elim, fun ⟨_, h, _⟩ => nomatch h⟩
      | some v => exact ⟨fun h => ⟨v, rfl, h⟩, fun ⟨w, e, h⟩ => by cases e; exact h⟩
    · rw [if_neg h, if_neg h]
      exact ⟨fun h => h.elim, fun ⟨_, h, _⟩ => nomatch h⟩
theorem ok_fld {cs : List Str} {f : Str} {d v : PV} (h : fldV cs f s d = some v) : Okx E (fldM cs f d) s Q ↔ Q v s := by
  rw [ok_fldM]
  exact ⟨fun ⟨w, e, q⟩ => by rw [h] at e; cases e; exact q, fun q => ⟨v, h, q⟩⟩
def conV (cs : List Str) (f : Str) (s : S) (d : PV) : Prop := match insOf s d with
  | some (c, ks, vs) => c ∈ cs ∧ (ks.zip vs).lookup f = none
  | none => False
theorem ok_conM {cs : List Str} {f : Str} {k : Int} {d : PV} : Okx E (conM cs f k d) s Q ↔ conV cs f s d ∧ Q (.int k) s := by
  unfold Okx conM conV
  cases insOf s d with
  | none => exact ⟨fun h => h.elim, fun h => h.1⟩
  | some t =>
    obtain ⟨c, ks, vs⟩ := t
    dsimp only
    by_cases h : c ∈ cs ∧ (ks.zip vs).lookup f = none
    · rw [if_pos h]
      exact ⟨fun q => ⟨h, q⟩, fun q => q.2⟩
    · rw [if_neg h]
      exact ⟨fun q => q.elim, fun q => h q.1⟩
def fputK (cs : List Str) (f : Str) (v : PV) (s : S) (Q : Fl → S → Prop) : PV → Prop
  | .hnd n => match s.sto[n]? with
    | some (.ins c ks vs) => (c ∈ cs ∧ ks.length < 1000) ∧ Q .nx ⟨s.env, s.sto.set n (.ins c (putKV f v ks vs).1 (putKV f v ks vs).2)⟩
    | _ => False
  | _ => False
theorem ok_fputM {cs : List Str} {f : Str} {cd cv : M PV} : Okx E (fputM cs f cd cv) s QF ↔ Okx E cv s (fun v s1 => Okx E cd s1 (fun d s2 => fputK cs f v s2 QF d)) := by
  unfold fputM
  rw [ok_bnd]
  have key : ∀ (v d : PV) (s : S), Okx E (fun s : S => match d with
      | .hnd n => match s.sto[n]? with
        | some (.ins c ks vs) => if c ∈ cs ∧ ks.length < 1000 then Res.ok Fl.nx { s with sto := s.sto.set n (.ins c (putKV f v ks vs).1 (putKV f v ks vs).2) } else .stk
        | _ => .stk
      | _ => .stk) s QF ↔ fputK cs f v s QF d := fun v d s => by
    unfold Okx fputK
    dsimp only
    cases d <;> try exact Iff.rfl
    rename_i n
    dsimp only
    cases s.sto[n]? with
    | none => exact Iff.rfl
    | some mo =>
      cases mo with
      | ins c ks vs =>
        dsimp only
        by_cases h : c ∈ cs ∧ ks.length < 1000
        · rw [if_pos h]; exact ⟨fun q => ⟨h, q⟩, fun q => q.2⟩
        · rw [if_neg h]; exact ⟨fun q => q.elim, fun q => h q.1⟩
      | dic => exact Iff.rfl
      | own => exact Iff.rfl
      | gone => exact Iff.rfl
  exact ⟨fun h => h.imp fun v s1 q => (ok_bnd.mp q).imp fun a s2 q => (key v a s2).mp q, fun h => h.imp fun v s1 q => ok_bnd.mpr (q.imp fun a s2 q => (key v a s2).mpr q)⟩
/-! an instance while it is made: the last two of the store -/
abbrev mkS (st : List MO) (c : Str) (ks : List Str) (vs : List PV) : List MO := st ++ [.ins c ks vs, .own st.length]
theorem mkS_get {c : Str} {ks : List Str} {vs : List PV} : (st ++ [MO.ins c ks vs, .own st.length])[st.length]? = some (.ins c ks vs) := by simp
theorem mkS_set {c : Str} {ks : List Str} {vs : List PV} {o : MO} : (st ++ [MO.ins c ks vs, .own st.length]).set st.length o = st ++ [o, .own st.length] := by simp
theorem fputK_new {cs : List Str} {f c : Str} {ks : List Str} {vs : List PV} {v : PV} : fputK cs f v ⟨env, mkS st c ks vs⟩ QF (.hnd st.length) ↔ (c ∈ cs ∧ ks.length < 1000) ∧ QF .nx ⟨env, mkS st c (putKV f v ks vs).1 (putKV f v ks vs).2⟩ := by
  unfold fputK
  simp only [mkS_get, mkS_set]
theorem conV_new {cs : List Str} {f c : Str} {ks : List Str} {vs : List PV} : conV cs f ⟨env, mkS st c ks vs⟩ (.hnd st.length) ↔ c ∈ cs ∧ (ks.zip vs).lookup f = none := by
  unfold conV insOf
  simp only [mkS_get]
theorem insOf_new {c : Str} {ks : List Str} {vs : List PV} : insOf ⟨env, mkS st c ks vs⟩ (.hnd st.length) = some (c, ks, vs) := by
  unfold insOf
  simp only [mkS_get]
theorem insOf_obj {c : Str} {ks : List Str} {vs : List PV} : insOf s (.obj c ks vs) = some (c, ks, vs) := rfl
/-! ### an instance made -/
def makeD (c : Str) (mf : Fn) (n : Nat) (ds : List PV) : M PV := fun s => match mf n (.hnd s.sto.length :: ds) (s.sto ++ [.ins c [] [], .own s.sto.length]) with
  | .ok .non st' => (match st'[s.sto.length]?, st'[s.sto.length + 1]? with
    | some (.ins c' ks vs), some (.own j) => if j = s.sto.length then .ok (.obj c' ks vs) { s with sto := (st'.set s.sto.length .gone).set (s.sto.length + 1) .gone } else .stk
    | _, _ => .stk)
  | .exc e st' => .exc e { s with sto := st' }
  | _ => .stk
theorem ok_makeM {c : Str} : Okx E (makeM c m n ra) s Q ↔ Okx E ra s (fun ds s1 => Okx E (makeD c m n ds) s1 Q) := by
  unfold makeM
  exact ok_bnd
theorem ok_made {c c' : Str} {ks : List Str} {vs : List PV} (h : m n (.hnd st.length :: ds) (mkS st c [] []) = .ok .non (mkS st c' ks vs)) : Okx E (makeD c m n ds) ⟨env, st⟩ Q ↔ Q (.obj c' ks vs) ⟨env, st ++ [.gone, .gone]⟩ := by
  have e : makeD c m n ds ⟨env, st⟩ = .ok (.obj c' ks vs) ⟨env, st ++ [.gone, .gone]⟩ := by
    unfold makeD
    dsimp only
    rw [h]
    have e2 : (st ++ [MO.ins c' ks vs, .own st.length])[st.length + 1]? = some (.own st.length) := by
      rw [List.getElem?_append_right (by omega)]
      simp
    have e3 : (st ++ [MO.gone, .own st.length]).set (st.length + 1) .gone = st ++ [.gone, .gone] := by
      rw [List.set_append_right _ _ (by omega)]
      simp
    simp only [mkS_get, e2, mkS_set, e3, if_true]
  unfold Okx
  rw [e]
/-! ### methods, instances called, super() -/
def methD (tab : List (Str × Fn)) (n : Nat) (m : Str) (r : M (List PV)) (d : PV) : M PV := fun s => match insOf s d with
  | some (c, ks, vs) => if (ks.zip vs).lookup m = none then (match tab.lookup c with
    | some f => bnd r (fun ds => runM f n (d :: ds)) s
    | none => .stk) else .stk
  | none => .stk
theorem ok_methM {tab : List (Str × Fn)} {mn : Str} : Okx E (methM tab n mn ca ra) s Q ↔ Okx E ca s (fun d s1 => Okx E (methD tab n mn ra d) s1 Q) := ok_bnd
theorem methD_obj {tab : List (Str × Fn)} {mn c : Str} {ks : List Str} {vs : List PV} (hf : (ks.zip vs).lookup mn = none) (ht : tab.lookup c = some m) : methD tab n mn ra (.obj c ks vs) = bnd ra (fun ds => runM m n (.obj c ks vs :: ds)) := by
  funext s
  unfold methD
  simp only [insOf_obj, hf, ht, if_true]
theorem propM_obj {tab : List (Str × Fn)} {c : Str} {ks : List Str} {vs : List PV} {r : PV} (ht : tab.lookup c = some m) (hm : m n [.obj c ks vs] s.sto = .ok r s.sto) : Okx E (propM tab n (.obj c ks vs)) s Q ↔ Q r s := by
  have e : propM tab n (.obj c ks vs) s = .ok r s := by
    unfold propM
    simp only [insOf_obj, ht, hm]
  unfold Okx
  rw [e]
theorem ok_sup {tab : List (Str × Fn)} {d : PV} {c : Str} {ks : List Str} {vs : List PV} (h0 : env[0]? = some (some (.val d))) (hi : insOf ⟨env, st⟩ d = some (c, ks, vs)) (ht : tab.lookup c = some m) : Okx E (supM tab n ra) ⟨env, st⟩ Q ↔ Okx E ra ⟨env, st⟩ (fun ds s1 => Okx E (runM m n (d :: ds)) s1 Q) := by
  have e : supM tab n ra ⟨env, st⟩ = bnd ra (fun ds => runM m n (d :: ds)) ⟨env, st⟩ := by
    unfold supM
    simp only [h0, hi, ht]
  rw [← ok_bnd]
  unfold Okx
  rw [e]
/-! ### exceptions -/
end
end Dn
/-! Nu: numbers as texts; equal data. -/
namespace Dn
open PySem
/-! equal data -/
/-! items of written tuples -/
theorem ix20 {a b : PV} {R : PV → Prop} : (∃ v, L2.atI [a, b] 0 = some v ∧ R v) ↔ R a := ⟨fun ⟨v, e, h⟩ => by cases e; exact h, fun h => ⟨a, rfl, h⟩⟩
theorem ix21 {a b : PV} {R : PV → Prop} : (∃ v, L2.atI [a, b] 1 = some v ∧ R v) ↔ R b := ⟨fun ⟨v, e, h⟩ => by cases e; exact h, fun h => ⟨b, rfl, h⟩⟩
/-! new answers -/
end Dn
/-! Pl7: kept exceptions answered; values of any kind. -/
namespace Dn
open PySem
end Dn
/-! Pl8: plain answers: pairs of names in a for, enumerate, stars, own operators, == []. -/
namespace Dn
open PySem
section
variable {s : S} {Q : PV → S → Prop} {QL : List PV → S → Prop} {QF : Fl → S → Prop} {E : PV → S → Prop} {ca cb cv : M PV} {fa : M Fl} {ra : M (List PV)} {i j n : Nat} {env : Env} {st : List MO} {v : PV} {m : Fn} {ds : List PV}
theorem ok_loopU {is : List Nat} {r : M (List PV)} : Okx E (loopU r is fa) s QF ↔ Okx E r s (fun xs s' => Okx E (forU is fa xs) s' QF) := by unfold loopU; exact ok_bnd
theorem ok_enumM : Okx E (enumM ca) s QL ↔ Okx E ca s (fun d s' => ∃ xs, enumP d = some xs ∧ QL xs s') := by
  unfold enumM
  rw [ok_bnd]
  exact ⟨fun h => h.imp fun a s' q => ok_lft.mp q, fun h => h.imp fun a s' q => ok_lft.mpr q⟩
theorem en_L {xs : List PV} {R : List PV → Prop} : (∃ ys, enumP (.lst xs) = some ys ∧ R ys) ↔ R (enumL 0 xs) := ⟨fun ⟨_, e, h⟩ => by cases e; exact h, fun h => ⟨_, rfl, h⟩⟩
theorem en_T {xs : List PV} {R : List PV → Prop} : (∃ ys, enumP (.tup xs) = some ys ∧ R ys) ↔ R (enumL 0 xs) := ⟨fun ⟨_, e, h⟩ => by cases e; exact h, fun h => ⟨_, rfl, h⟩⟩
theorem ok_for2 {body : M Fl} {xs : List PV} {Q : Fl → S → Prop} (I : Nat → S → Prop) (h0 : I 0 s) (hs : ∀ (k : Nat) (x : PV) (s : S), xs[k]? = some x → I k s → ∃ a b, x = .tup [a, b] ∧ Okx E body ⟨(s.env.set i (some (.val a))).set j (some (.val b)), s.sto⟩ (fun fl s' => flK Q (I (k + 1)) s' fl)) (hd : ∀ s, I xs.length s → Q .nx s) : Okx E (forU [i, j] body xs) s Q := by
  have key : ∀ (ys : List PV) (k : Nat) (s : S), xs.drop k = ys → k + ys.length = xs.length → I k s → Okx E (forU [i, j] body ys) s Q := by
    intro ys
    induction ys with
    | nil =>
      intro k s e hl hI
      have hk : k = xs.length := by simpa using hl
      subst hk
      exact hd s hI
    | cons y ys ih =>
      intro k s e hl hI
      have hk : k < xs.length := by simp at hl; omega
      have e' := List.drop_eq_getElem_cons hk
      rw [e] at e'
      obtain ⟨e1, e2⟩ := List.cons.inj e'
      have hg : xs[k]? = some y := by rw [e1]; exact List.getElem?_eq_getElem hk
      obtain ⟨a, b, rfl, hb⟩ := hs k y s hg hI
      have e0 : setAll [i, j] [a, b] s = .ok .nx ⟨(s.env.set i (some (.val a))).set j (some (.val b)), s.sto⟩ := rfl
      rcases hb.two with ⟨fl, s', eb, q⟩ | ⟨z, s', eb, q⟩
      case' inr =>
        unfold Okx forU
        simp only [List.length_cons, List.length_nil, if_true, e0, eb]
        exact q
      unfold Okx forU
      simp only [List.length_cons, List.length_nil, if_true, e0]
      cases fl with
      | nx => simp only [eb]; exact ih (k + 1) s' e2.symm (by simp at hl; omega) q
      | ct => simp only [eb]; exact ih (k + 1) s' e2.symm (by simp at hl; omega) q
      | bk => simp only [eb]; exact q
      | rt d => simp only [eb]; exact q
  exact key xs 0 s rfl (by simp) h0
theorem ok_starA : Okx E (starA i ra) s QL ↔ Okx E ra s (fun ds s1 => (i ≤ ds.length ∧ ds.length - i ≤ sizeLine) ∧ QL (ds.take i ++ [.tup (ds.drop i)]) s1) := by
  unfold starA
  rw [ok_bnd]
  have key : ∀ (a : List PV) (s : S), Okx E (if i ≤ a.length ∧ a.length - i ≤ sizeLine then ret (a.take i ++ [.tup (a.drop i)]) else stuck) s QL ↔ (i ≤ a.length ∧ a.length - i ≤ sizeLine) ∧ QL (a.take i ++ [.tup (a.drop i)]) s := fun a s => by
    by_cases h : i ≤ a.length ∧ a.length - i ≤ sizeLine
    · rw [if_pos h]; exact ⟨fun q => ⟨h, q⟩, fun q => q.2⟩
    · rw [if_neg h]; exact ⟨fun q => q.elim, fun q => (h q.1).elim⟩
  exact ⟨fun h => h.imp fun a s1 q => (key a s1).mp q, fun h => h.imp fun a s1 q => (key a s1).mpr q⟩
theorem ok_bop {tab : List (Str × Fn)} {oth : List Str} {bl : List String} {old : PV → PV → M PV} {c c2 : Str} {ks ks2 : List Str} {vs vs2 : List PV} (ht : tab.lookup c = some m) (hc : c2 = c ∨ c2 ∈ oth) : Okx E (bopO tab oth bl n old (.obj c ks vs) (.obj c2 ks2 vs2)) s Q ↔ Okx E (runM m n [.obj c ks vs, .obj c2 ks2 vs2]) s Q := by
  unfold bopO Okx
  simp only [insOf_obj, ht, if_pos hc]
end
end Dn
/-! Pl9: plain answers: len of own instances. -/
namespace Dn
open PySem
/-! ### plain -/
section
variable {E : PV → S → Prop} {s : S} {Q : PV → S → Prop} {n : Nat}
theorem ok_lenO {tab : List (Str × Fn)} {c : Str} {ks : List Str} {vs : List PV} {m : Fn} (ht : tab.lookup c = some m) : Okx E (lenO tab n (.obj c ks vs)) s Q ↔ Okx E (runM m n [.obj c ks vs]) s (fun d s' => Okx E (lenR d) s' Q) := by
  rw [← ok_bnd]
  unfold lenO Okx
  simp only [insOf_obj, ht]
theorem ok_lenR {i : Int} (h : 0 ≤ i ∧ i < 2 ^ 63) : Okx E (lenR (.int i)) s Q ↔ Q (.int i) s := by
  unfold lenR
  simp only [if_pos h]
  exact ok_ret
theorem ok_mulI {a b : Int} : Okx E (opMulI (.int a) (.int b)) s Q ↔ L2.CMulW a b ∧ Q (.int (a * b)) s := by
  show Okx E (lft (if L2.CMulW a b then some (.int (a * b)) else none)) s Q ↔ _
  rw [ok_lft]
  by_cases h : L2.CMulW a b
  · simp [h]
  · simp [h]
theorem ok_minL {xs : List Int} : Okx E (fMinL (.lst (xs.map .int))) s Q ↔ ∃ m, minI xs = some m ∧ Q (.int m) s := by
  show Okx E (lft ((intsOf (xs.map .int)).bind fun xs => (minI xs).map .int)) s Q ↔ _
  rw [ok_lft, intsOf_map]
  show (∃ a, (minI xs).map PV.int = some a ∧ Q a s) ↔ _
  cases minI xs with
  | none => simp
  | some m => simp
theorem ok_revL {c : M PV} : Okx E (revU c) s Q ↔ Okx E c s (fun d s' => match d with
  | .lst xs => Q (.lst xs.reverse) s'
  | .tup xs => Q (.tup xs.reverse) s'
  | _ => False) := by
  unfold revU
  rw [ok_bnd]
  constructor <;> (refine fun h => h.imp fun d s' q => ?_) <;> cases d <;> first | exact q | exact ok_ret.mp q | exact ok_ret.mpr q
theorem ok_rngM2 {ca cb : M PV} {QL : List PV → S → Prop} : Okx E (rngM2 ca cb) s QL ↔ Okx E ca s (fun a s1 => Okx E cb s1 (fun b s2 => ∃ xs, rngP2 a b = some xs ∧ QL xs s2)) := by
  unfold rngM2
  rw [ok_bnd]
  constructor
  · exact fun h => h.imp fun a s1 q => (ok_bnd.mp q).imp fun b s2 q => ok_lft.mp q
  · exact fun h => h.imp fun a s1 q => ok_bnd.mpr (q.imp fun b s2 q => ok_lft.mpr q)
theorem rngP2_nat {a b : Int} (h0 : 0 ≤ a) (h1 : a < 2 ^ 62) (h2 : 0 ≤ b) (h3 : b < 2 ^ 62) : rngP2 (.int a) (.int b) = some ((List.range (b - a).toNat).map fun (k : Nat) => PV.int (a + (k : Int))) := by
  have : (-(2 ^ 62) ≤ a ∧ a < 2 ^ 62) ∧ -(2 ^ 62) ≤ b ∧ b < 2 ^ 62 := by omega
  simp only [rngP2, if_pos this]
theorem minI_some {xs : List Int} (h : xs ≠ []) : ∃ m, minI xs = some m := by
  cases xs with
  | nil => exact absurd rfl h
  | cons x r => exact ⟨_, rfl⟩
theorem ok_lenScr {ns : List Int} : Okx E (lft (lenP (.scr ns))) s Q ↔ Q (.int ns.length) s := Iff.rfl
/-- a statement with what comes behind hidden (keeps the terms small) -/
theorem ok_seqH {ca cb : M Fl} {Q : Fl → S → Prop} (h : ∀ KK : Fl → S → Prop, (∀ fl s', KK fl s' ↔ seqK E cb s' Q fl) → Okx E ca s KK) : Okx E (seqM ca cb) s Q := ok_seq (h _ fun _ _ => Iff.rfl)
end
end Dn
/-! Gc: fractions in lowest terms. -/
namespace Dn
open PySem
theorem gcd_step (a b : Nat) : Nat.gcd b (a % b) = Nat.gcd a b := by
  rw [Nat.gcd_comm b (a % b), ← Nat.gcd_rec, Nat.gcd_comm]
section
variable {E : PV → S → Prop} {Q : Fl → S → Prop} {n : Nat} {env : Env} {st : List MO} {i j : Nat}
/-- Euclid's loop in the slots i, j -/
theorem ok_gcd {a b : Nat} {t : M Bool} {body : M Fl} (hn : b < n) (h0 : env[i]? = some (some (.val (.int (a : Nat))))) (h1 : env[j]? = some (some (.val (.int (b : Nat))))) (hij : i ≠ j)
    (ht : ∀ (e : Env) (y : Nat), e[j]? = some (some (.val (.int (y : Nat)))) → Okx E t ⟨e, st⟩ (fun x s => x = decide (0 < y) ∧ s = ⟨e, st⟩))
    (hb : ∀ (e : Env) (x y : Nat), 0 < y → e[i]? = some (some (.val (.int (x : Nat)))) → e[j]? = some (some (.val (.int (y : Nat)))) → Okx E body ⟨e, st⟩ (fun fl s => fl = .nx ∧ s = ⟨(e.set i (some (.val (.int (y : Nat))))).set j (some (.val (.int ((x % y : Nat) : Int)))), st⟩))
    (hq : Q .nx ⟨(env.set i (some (.val (.int ((Nat.gcd a b : Nat) : Int))))).set j (some (.val (.int 0))), st⟩) : Okx E (whM t body n) ⟨env, st⟩ Q := by
  have li : i < env.length := (List.getElem?_eq_some_iff.mp h0).1
  have lj : j < env.length := (List.getElem?_eq_some_iff.mp h1).1
  have gi : ∀ (x y : Nat), ((env.set i (some (.val (.int (x : Nat))))).set j (some (.val (.int (y : Nat)))))[i]? = some (some (.val (.int (x : Nat)))) := fun x y => by
    rw [List.getElem?_set_ne (Ne.symm hij), List.getElem?_set_self li]
  have gj : ∀ (x y : Nat), ((env.set i (some (.val (.int (x : Nat))))).set j (some (.val (.int (y : Nat)))))[j]? = some (some (.val (.int (y : Nat)))) := fun x y => by
    rw [List.getElem?_set_self (by rw [List.length_set]; exact lj)]
  have same : ∀ (x y x2 y2 : Nat), ((((env.set i (some (.val (.int (x : Nat))))).set j (some (.val (.int (y : Nat)))))).set i (some (.val (.int (x2 : Nat))))).set j (some (.val (.int (y2 : Nat)))) = (env.set i (some (.val (.int (x2 : Nat))))).set j (some (.val (.int (y2 : Nat)))) := fun x y x2 y2 => by
    apply List.ext_getElem?
    intro k
    by_cases hk : j = k
    · subst hk
      rw [List.getElem?_set_self (by simpa using lj), List.getElem?_set_self (by simpa using lj)]
    · rw [List.getElem?_set_ne hk, List.getElem?_set_ne hk]
      by_cases hk2 : i = k
      · subst hk2
        rw [List.getElem?_set_self (by simpa using li), List.getElem?_set_self li]
      · rw [List.getElem?_set_ne hk2, List.getElem?_set_ne hk, List.getElem?_set_ne hk2, List.getElem?_set_ne hk2]
  have start : env = (env.set i (some (.val (.int (a : Nat))))).set j (some (.val (.int (b : Nat)))) := by
    apply List.ext_getElem?
    intro k
    by_cases hk : j = k
    · subst hk
      rw [List.getElem?_set_self (by simpa using lj), h1]
    · rw [List.getElem?_set_ne hk]
      by_cases hk2 : i = k
      · subst hk2
        rw [List.getElem?_set_self li, h0]
      · rw [List.getElem?_set_ne hk2]
  refine ok_while (fun m s => ∃ x y : Nat, m = y ∧ Nat.gcd x y = Nat.gcd a b ∧ s = ⟨(env.set i (some (.val (.int (x : Nat))))).set j (some (.val (.int (y : Nat)))), st⟩) (m := b) ⟨a, b, rfl, rfl, by rw [← start]⟩ hn ?_
  rintro m s ⟨x, y, rfl, hg, rfl⟩
  refine (ht _ m (gj x m)).imp fun z s ⟨hz, hs⟩ => ?_
  subst hs hz
  by_cases hy : 0 < m
  · rw [if_pos (decide_eq_true hy)]
    refine (hb _ x m hy (gi x m) (gj x m)).imp fun fl s ⟨hf, hs⟩ => ?_
    subst hf hs
    refine ⟨x % m, Nat.mod_lt _ hy, m, x % m, rfl, by rw [gcd_step, hg], ?_⟩
    rw [same]
  · rw [if_neg (by simpa using hy)]
    have e : m = 0 := by omega
    subst e
    rw [Nat.gcd_zero_right] at hg
    subst hg
    exact hq
end
end Dn
/-! C1: the pen of the laws from k26 on. -/
namespace Lw
open PySem Dn
open L2 hiding bin
abbrev pen (cells : List Int) (b l : Int) : List (L2.Key × PV) := penD "cells" "spot" "rest" cells b l
theorem K3 : Keys3 "cells" "spot" "rest" := ⟨by decide +kernel, by decide +kernel, by decide +kernel⟩
theorem pc {cells b l} : valP (penD "cells" "spot" "rest" cells b l) (.inr "cells") = some (.lst (cells.map .int)) := pen_c
theorem pb {cells b l} : valP (penD "cells" "spot" "rest" cells b l) (.inr "spot") = some (.int b) := pen_b K3
theorem pl {cells b l} : valP (penD "cells" "spot" "rest" cells b l) (.inr "rest") = some (.int l) := pen_l K3
theorem ppb {cells b l v} : putP (penD "cells" "spot" "rest" cells b l) (.inr "spot") (.int v) = penD "cells" "spot" "rest" cells v l := pen_put_b K3
theorem ppl {cells b l v} : putP (penD "cells" "spot" "rest" cells b l) (.inr "rest") (.int v) = penD "cells" "spot" "rest" cells b v := pen_put_l K3
theorem plen {kc kb kl : Str} {cells b l} : ((penD kc kb kl cells b l).length < sizeLine) = True := by rw [sizeLine_eq]; simp [penD]
local macro_rules | `(tactic| walk_at "st") => `(tactic| try simp only [ok_ret, ok_bnd, ok_bin, ok_var, varK_val, varK_own, pv_val, pv_own, ok_asB, asBK_bl, ok_andT, ok_orT, ok_notT, ok_iteT, ok_andV, ok_notV, blK_bl,
  ok_argN, ok_argC, ok_fits, ok_tupM, ok_lstM, ok_parN, ok_parS, intK_int, ok_slM, ok_joinM, strK_str, ok_itemsM, ok_rngM, ok_seqM, seqK_nx, seqK_rt, seqK_bk, seqK_ct, ok_ifM, ok_retM, ok_dropM, ok_skipM, ok_asgM, ok_asgO, ok_par2, ok_par2VO, ok_par3,
  ok_callM, rtK_rt, rtK_nx, ok_loopM, ok_lcM, ok_dispM, ok_prsN, ok_prsC, ok_hget0, getK_some, ok_hputM, putK0, pc, pb, pl, ppb, ppl, plen, ok_add, ok_addS, ok_addT, ok_addL, ok_sub, ok_mul, ok_ixL, ok_ixT, ok_unp, unpK_tup, ok_set0, ok_setC, ok_app, flK_nx, flK_ct, flK_bk, flK_rt, sl_L, sl_T, sl_S, it_L, it_T, wip, ok_div, ok_mod, ok_pow, ok_rep, ok_ord, ok_fInt, ok_fAbs, ok_lenL, ok_lenT, ok_lenS, ok_fListL, ok_fListT, ok_fTupleL, ok_fTupleT, ok_eqI, ok_eqB, ok_eqS,
  okF_ok, okF_exc, ok_runM, ok_appA, ok_len1, ok_argS, starK_tup, starK_lst, ok_chain, isNonB_non, isNonB_int, isNonB_bl, isNonB_str, isNonB_tup, isNonB_lst, isNonB_obj, ok_isN, ok_max, ok_min, isi_int_int, isi_int_bl, isi_int_non, isi_int_str, isi_int_tup, isi_int_lst, isi_bool_int, isi_bool_bl, isi_str_str, isi_str_int, isi_str_bl, isi_str_non, isi_str_tup, isi_str_lst, isi_tuple_tup, isi_tuple_int, isi_tuple_bl, isi_tuple_non, isi_tuple_str, isi_tuple_lst,
  ok_conM, ok_fputM, fputK_new, conV_new, ok_makeM, ok_methM,
  List.map_cons, List.map_nil, List.replicate_succ, List.replicate_zero, List.cons_append, List.nil_append, List.append_nil, List.getElem?_cons_zero, List.getElem?_cons_succ, List.set_cons_zero, List.set_cons_succ, Nat.reduceSub, decide_eq_true_eq, if_true, if_false, Bool.false_eq_true, Bool.not_true, Bool.not_false, beq_self_eq_true, Bool.true_eq_false, bne_self_eq_false, Bool.bne_true, Bool.bne_false, Nat.zero_add, Nat.reduceAdd, true_and, and_true, reduceCtorEq, List.length_cons, List.length_nil])
theorem sp_pen {n : Nat} {ns : List Int} {st : List MO} {Q : PV → List MO → Prop} (h : Q (.hnd st.length) (st ++ [.dic (pen (cutI ns none (some 63)) 0 0)])) : OkF (m_law_pen n [.scr ns] st) Q := by
  unfold m_law_pen
  refine okF_fn rfl ?_
  unfold b_law_pen
  walk_at "st"
  refine ⟨_, rfl, ?_⟩
  walk_at "st"
  rw [pen_new K3]
  exact ⟨by decide, h⟩
/-- a pen at the bottom of the store, used at most B times; g stands above it -/
def Pn (cells : List Int) (B : Int) (g st : List MO) : Prop := ∃ b l, st = .dic (pen cells b l) :: g ∧ 0 ≤ b ∧ b ≤ B ∧ 0 ≤ l
theorem Pn.mono {cells : List Int} {B B' : Int} {g st : List MO} (h : Pn cells B g st) (hb : B ≤ B') : Pn cells B' g st := by
  obtain ⟨b, l, e, h1, h2, h3⟩ := h
  exact ⟨b, l, e, h1, Int.le_trans h2 hb, h3⟩
theorem Pn.up {cells : List Int} {B : Int} {g st more : List MO} (h : Pn cells B g st) : Pn cells B (g ++ more) (st ++ more) := by
  obtain ⟨b, l, rfl, h1, h2, h3⟩ := h
  exact ⟨b, l, rfl, h1, h2, h3⟩
theorem atI_cellM {cells : List Int} {k : Int} (h0 : 0 ≤ k) (h1 : k < cells.length) : ∃ c : Int, L2.atI (cells.map PV.int) k = some (.int c) ∧ c ∈ cells := by
  obtain ⟨v, e, hm⟩ := atI_in (ds := cells.map PV.int) h0 (by simpa using h1)
  obtain ⟨c, hc, rfl⟩ := List.mem_map.mp hm
  exact ⟨c, e, hc⟩
theorem cpow18 : L2.CPow 10 18 := by decide +kernel
theorem ok_mulV {a b : Int} {s : S} {E : PV → S → Prop} {Q : PV → S → Prop} : Okx E (lft (mulVP (.int a) (.int b))) s Q ↔ CMulV a b ∧ Q (.int (a * b)) s := by
  rw [ok_lft]
  unfold mulVP
  by_cases h : CMulV a b
  · simp [h]
  · simp [h]
theorem cmulV1 {a b : Int} (ha : -1267650600228229401496703205376 ≤ a ∧ a ≤ 1267650600228229401496703205376) (hb : -1267650600228229401496703205376 ≤ b ∧ b ≤ 1267650600228229401496703205376) : CMulV a b := by
  have h1 : a.natAbs.log2 < 200 := log_lt (p := 200) (Nat.lt_of_le_of_lt (show a.natAbs ≤ 1267650600228229401496703205376 by omega) (by decide)) (by decide)
  have h2 : b.natAbs.log2 < 200 := log_lt (p := 200) (Nat.lt_of_le_of_lt (show b.natAbs ≤ 1267650600228229401496703205376 by omega) (by decide)) (by decide)
  show a.natAbs.log2 + b.natAbs.log2 < 100000000
  omega
/-- the cells are of at most so many bits -/
def Bt (cells : List Int) : Prop := ∀ z ∈ cells, z.natAbs.log2 ≤ 1048576
theorem nat_log {z : Nat} (h : z.log2 ≤ 1048576) : z < 2 ^ 1048577 := by
  have := Nat.lt_log2_self (n := z)
  exact Nat.lt_of_lt_of_le this (Nat.pow_le_pow_right (by decide) (by omega))
theorem cmulC {c b d : Int} (hc : c.natAbs.log2 ≤ 1048576) (hb : 0 ≤ b ∧ b ≤ 1267650600228229401496703205376) (hd : d.natAbs < 2 ^ 200) : CMulV (c + b) d := by
  have h1 := nat_log hc
  have h3 := log_lt hd (by decide)
  have h4 : (c + b).natAbs < 2 ^ (1048577 + 1) := by
    have e : (2 : Nat) ^ (1048577 + 1) = 2 ^ 1048577 + 2 ^ 1048577 := (Nat.pow_succ ..).trans (Nat.mul_two _)
    have e2 : 1267650600228229401496703205376 ≤ 2 ^ 1048577 := Nat.le_trans (show 1267650600228229401496703205376 ≤ 2 ^ 100 by decide) (Nat.pow_le_pow_right (by decide) (by decide))
    rw [e]
    revert h1 e2
    generalize (2 : Nat) ^ 1048577 = w
    intro h1 e2
    clear e
    omega
  have h2 := log_lt h4 (by decide)
  show (c + b).natAbs.log2 + d.natAbs.log2 < 100000000
  omega
theorem mix83 {c b : Int} (hc : c.natAbs.log2 ≤ 1048576) (hb : 0 ≤ b) (hb2 : b ≤ 1000000000) : CMulV (c + 83 * b * b + 41 * b + 7) 2862933555777941757 := by
  have hbb : b * b ≤ 1000000000 * 1000000000 := Int.mul_le_mul hb2 hb2 hb (by decide)
  have hbb0 : 0 ≤ b * b := Int.mul_nonneg hb hb
  have h83 : 83 * b * b = 83 * (b * b) := Int.mul_assoc ..
  rw [show c + 83 * b * b + 41 * b + 7 = c + (83 * (b * b) + 41 * b + 7) by omega]
  exact cmulC hc (by omega) (by decide)
theorem cmm (x : Int) : CMulV (x % 18446744073709551533) (x % 18446744073709551533 + 1181783497) := by
  have := Int.emod_nonneg x (show (18446744073709551533 : Int) ≠ 0 by decide)
  have := Int.emod_lt_of_pos x (show (0 : Int) < 18446744073709551533 by decide)
  exact cmulV1 (by omega) (by omega)
theorem mixQ {c b k : Int} {Z : Prop} (hc : c.natAbs.log2 ≤ 1048576) (hb : 0 ≤ b) (hb2 : b ≤ 1000000000) (hk : 0 < k ∧ k ≤ 1267650600228229401496703205376) (hz : Z) {y x : Int} : CMulV 83 b ∧ CMulV (83 * b) b ∧ CMulV 41 b ∧ CMulV (c + 83 * b * b + 41 * b + 7) 2862933555777941757 ∧ CMulV 3037000493 (b + 1) ∧ 0 < (18446744073709551533 : Int) ∧ CMulV (x % 18446744073709551533) (x % 18446744073709551533 + 1181783497) ∧ 0 < (18446744073709551533 : Int) ∧ L2.CDivW y 4294967291 ∧ 0 < k ∧ Z :=
  ⟨cmulV1 (by decide) (by omega), cmulV1 (by omega) (by omega), cmulV1 (by decide) (by omega), mix83 hc hb hb2, cmulV1 (by decide) (by omega), by decide, cmm _, by decide, cdiv100 (by decide) (by decide), hk.1, hz⟩
local macro_rules | `(tactic| walk_at "st") => `(tactic| try simp only [ok_ret, ok_bnd, ok_bin, ok_var, varK_val, varK_own, pv_val, pv_own, ok_asB, asBK_bl, ok_andT, ok_orT, ok_notT, ok_iteT, ok_andV, ok_notV, blK_bl,
  ok_argN, ok_argC, ok_fits, ok_tupM, ok_lstM, ok_parN, ok_parS, intK_int, ok_slM, ok_joinM, strK_str, ok_itemsM, ok_rngM, ok_seqM, seqK_nx, seqK_rt, seqK_bk, seqK_ct, ok_ifM, ok_retM, ok_dropM, ok_skipM, ok_asgM, ok_asgO, ok_par2, ok_par2VO, ok_par3,
  ok_callM, rtK_rt, rtK_nx, ok_loopM, ok_lcM, ok_dispM, ok_prsN, ok_prsC, ok_hget0, getK_some, ok_hputM, putK0, pc, pb, pl, ppb, ppl, plen, ok_add, ok_addS, ok_addT, ok_addL, ok_sub, ok_mul, ok_ixL, ok_ixT, ok_unp, unpK_tup, ok_set0, ok_setC, ok_app, flK_nx, flK_ct, flK_bk, flK_rt, sl_L, sl_T, sl_S, it_L, it_T, wip, ok_div, ok_mod, ok_pow, ok_rep, ok_ord, ok_fInt, ok_fAbs, ok_lenL, ok_lenT, ok_lenS, ok_fListL, ok_fListT, ok_fTupleL, ok_fTupleT, ok_eqI, ok_eqB, ok_eqS,
  okF_ok, okF_exc, ok_runM, ok_appA, ok_len1, ok_argS, starK_tup, starK_lst, ok_chain, isNonB_non, isNonB_int, isNonB_bl, isNonB_str, isNonB_tup, isNonB_lst, isNonB_obj, ok_isN, ok_max, ok_min, isi_int_int, isi_int_bl, isi_int_non, isi_int_str, isi_int_tup, isi_int_lst, isi_bool_int, isi_bool_bl, isi_str_str, isi_str_int, isi_str_bl, isi_str_non, isi_str_tup, isi_str_lst, isi_tuple_tup, isi_tuple_int, isi_tuple_bl, isi_tuple_non, isi_tuple_str, isi_tuple_lst,
  ok_conM, ok_fputM, fputK_new, conV_new, ok_makeM, ok_methM,
  List.map_cons, List.map_nil, List.replicate_succ, List.replicate_zero, List.cons_append, List.nil_append, List.append_nil, List.getElem?_cons_zero, List.getElem?_cons_succ, List.set_cons_zero, List.set_cons_succ, Nat.reduceSub, decide_eq_true_eq, if_true, if_false, Bool.false_eq_true, Bool.not_true, Bool.not_false, beq_self_eq_true, Bool.true_eq_false, bne_self_eq_false, Bool.bne_true, Bool.bne_false, Nat.zero_add, Nat.reduceAdd, true_and, and_true, reduceCtorEq, List.length_cons, List.length_nil, ok_mulV])
local macro_rules | `(tactic| walk_at "sv") => `(tactic| repeat' first | exact True.intro | with_reducible rfl | omega | exact cdiv100 (by omega) (by omega) | exact cmul100 (by omega) (by omega) | (show L2.CPow _ _; decide +kernel) | apply And.intro)
set_option maxHeartbeats 4000000 in
theorem sp_draw {n : Nat} {k B : Int} {cells : List Int} {g st : List MO} {Q : PV → List MO → Prop} (hbt : Bt cells) (hp : Pn cells B g st) (hk : 0 < k ∧ k ≤ 1267650600228229401496703205376) (hB : B < 1000000000)
    (h : ∀ r st', 0 ≤ r → r < k → Pn cells (B + 1) g st' → Q (.int r) st') : OkF (m_law_draw n [.hnd 0, .int k] st) Q := by
  obtain ⟨b, l, rfl, hb, hb2, hl⟩ := hp
  have hz : sizeLine = 16777216 := sizeLine_eq
  have hr : ∀ x : Int, 0 ≤ x % k ∧ x % k < k := fun x => ⟨Int.emod_nonneg _ (by omega), Int.emod_lt_of_pos _ hk.1⟩
  have h := fun (x b' l' : Int) (h1 : 0 ≤ b') (h2 : b' ≤ B + 1) (h3 : 0 ≤ l') => h (x % k) (.dic (pen cells b' l') :: g) (hr x).1 (hr x).2 ⟨b', l', rfl, h1, h2, h3⟩
  unfold m_law_draw
  refine okF_fn rfl ?_
  unfold b_law_draw
  walk_at "st"
  split
  · rename_i hl0
    walk_at "sv"
    exact h _ _ _ (by omega) (by omega) (Int.ediv_nonneg (by omega) (by omega))
  · walk_at "sv"
    rw [ok_eqNil (toDs_ints _) (shaped_ints _)]
    walk_at "st"
    split
    case' isTrue =>
      rename_i hne
      have hlen : 0 < (cells.map PV.int).length := by
        cases cells with
        | nil => simp at hne
        | cons => simp
      obtain ⟨c, hc, hcm⟩ := atI_cellM (cells := cells) (k := b % ((cells.map PV.int).length : Int)) (Int.emod_nonneg _ (by omega)) (by rw [← List.length_map (f := PV.int)]; exact Int.emod_lt_of_pos _ (by omega))
      have hcb := hbt c hcm
      refine ⟨by omega, _, hc, ?_⟩
    case' isFalse =>
      rename_i hne
      have hcb : (0 : Int).natAbs.log2 ≤ 1048576 := by decide
      have hlen : ¬ b < ((cells.map PV.int).length : Int) := by
        cases cells with
        | nil => simp; omega
        | cons => simp at hne
    all_goals
      walk_at "st"
    case isFalse.right.isFalse =>
      rw [if_neg hlen]
      exact mixQ hcb hb (by omega) hk (h _ _ _ (by omega) (by omega) hl)
    case isFalse.right.isTrue =>
      generalize (if c < 0 then -c else c) = ac
      split
      · refine ⟨cpow18, ?_⟩
        split
        · exact ⟨cpow18, cdiv100 (by omega) (by omega), cpow18, by omega, h _ _ _ (by omega) (by omega) (Int.ediv_nonneg (by omega) (by omega))⟩
        · exact mixQ hcb hb (by omega) hk (h _ _ _ (by omega) (by omega) hl)
      · exact mixQ hcb hb (by omega) hk (h _ _ _ (by omega) (by omega) hl)
set_option maxHeartbeats 4000000 in
theorem sp_pickL {n : Nat} {B : Int} {cells : List Int} {g st : List MO} {xs : List PV} {Q : PV → List MO → Prop} (hbt : Bt cells) (hp : Pn cells B g st) (hx : 0 < xs.length ∧ xs.length ≤ 1000000) (hB : B < 1000000000)
    (h : ∀ v st', v ∈ xs → Pn cells (B + 1) g st' → Q v st') : OkF (m_law_pick n [.hnd 0, .lst xs] st) Q := by
  unfold m_law_pick
  refine okF_fn rfl ?_
  unfold b_law_pick
  walk_at "st"
  refine sp_draw hbt hp (by omega) hB fun r st' h0 h1 hp' => ?_
  walk_at "st"
  obtain ⟨v, e, hm⟩ := atI_in h0 h1
  exact ⟨v, e, h v st' hm hp'⟩
set_option maxHeartbeats 4000000 in
theorem sp_pickS {n : Nat} {B : Int} {cells : List Int} {g st : List MO} {x : Str} {Q : PV → List MO → Prop} (hbt : Bt cells) (hp : Pn cells B g st) (hx : 0 < x.length ∧ x.length ≤ 1000000) (hB : B < 1000000000)
    (h : ∀ c st', c ∈ x.cps.toList → Pn cells (B + 1) g st' → Q (.str ⟨#[c]⟩) st') : OkF (m_law_pick n [.hnd 0, .str x] st) Q := by
  have hs : x.length ≤ sizeLine := by rw [sizeLine_eq]; omega
  unfold m_law_pick
  refine okF_fn rfl ?_
  unfold b_law_pick
  walk_at "st"
  refine ⟨hs, ?_⟩
  refine sp_draw hbt hp (by omega) hB fun r st' h0 h1 hp' => ?_
  rw [ok_ixS hs]
  have hl : x.cps.toList.length = x.length := by simp [Str.length]
  obtain ⟨c, e, hm⟩ := atI_in (ds := x.cps.toList) h0 (by rw [hl]; exact h1)
  exact ⟨c, e, h c st' hm hp'⟩
end Lw
/-! N2: names, plain (with the pen of the law's family). -/
namespace Lw
open PySem Dn
open L2 hiding bin
local macro_rules | `(tactic| walk_at "st") => `(tactic| try simp only [ok_ret, ok_bnd, ok_bin, ok_var, varK_val, varK_own, pv_val, pv_own, ok_asB, asBK_bl, ok_andT, ok_orT, ok_notT, ok_iteT, ok_andV, ok_notV, blK_bl,
  ok_argN, ok_argC, ok_fits, ok_tupM, ok_lstM, ok_parN, ok_parS, intK_int, ok_slM, ok_joinM, strK_str, ok_itemsM, ok_rngM, ok_seqM, seqK_nx, seqK_rt, seqK_bk, seqK_ct, ok_ifM, ok_retM, ok_dropM, ok_skipM, ok_asgM, ok_asgO, ok_par2, ok_par2VO, ok_par3,
  ok_callM, rtK_rt, rtK_nx, ok_loopM, ok_lcM, ok_dispM, ok_prsN, ok_prsC, ok_hget0, getK_some, ok_hputM, putK0, pc, pb, pl, ppb, ppl, plen, ok_add, ok_addS, ok_addT, ok_addL, ok_sub, ok_mul, ok_ixL, ok_ixT, ok_unp, unpK_tup, ok_set0, ok_setC, ok_app, flK_nx, flK_ct, flK_bk, flK_rt, sl_L, sl_T, sl_S, it_L, it_T, wip, ok_div, ok_mod, ok_pow, ok_rep, ok_ord, ok_fInt, ok_fAbs, ok_lenL, ok_lenT, ok_lenS, ok_fListL, ok_fListT, ok_fTupleL, ok_fTupleT, ok_eqI, ok_eqB, ok_eqS,
  okF_ok, okF_exc, ok_runM, ok_appA, ok_len1, ok_argS, starK_tup, starK_lst, ok_chain, isNonB_non, isNonB_int, isNonB_bl, isNonB_str, isNonB_tup, isNonB_lst, isNonB_obj, ok_isN, ok_max, ok_min, isi_int_int, isi_int_bl, isi_int_non, isi_int_str, isi_int_tup, isi_int_lst, isi_bool_int, isi_bool_bl, isi_str_str, isi_str_int, isi_str_bl, isi_str_non, isi_str_tup, isi_str_lst, isi_tuple_tup, isi_tuple_int, isi_tuple_bl, isi_tuple_non, isi_tuple_str, isi_tuple_lst,
  ok_conM, ok_fputM, fputK_new, conV_new, ok_makeM, ok_methM,
  List.map_cons, List.map_nil, List.replicate_succ, List.replicate_zero, List.cons_append, List.nil_append, List.append_nil, List.getElem?_cons_zero, List.getElem?_cons_succ, List.set_cons_zero, List.set_cons_succ, Nat.reduceSub, decide_eq_true_eq, if_true, if_false, Bool.false_eq_true, Bool.not_true, Bool.not_false, beq_self_eq_true, Bool.true_eq_false, bne_self_eq_false, Bool.bne_true, Bool.bne_false, Nat.zero_add, Nat.reduceAdd, true_and, and_true, reduceCtorEq, List.length_cons, List.length_nil])
abbrev AZ : Str := "abcdefghijklmnopqrstuvwxyz"
def lowC (c : Nat) : Prop := c ∈ AZ.cps.toList
instance (c : Nat) : Decidable (lowC c) := inferInstanceAs (Decidable (c ∈ AZ.cps.toList))
/-- a name: 1 to 8 letters -/
structure Nm (x : Str) : Prop where
  pos : 0 < x.length
  le : x.length ≤ 8
  low : ∀ c ∈ x.cps.toList, lowC c
/-- texts of small letters -/
structure Lo (w : Nat) (x : Str) : Prop where
  le : x.length ≤ w
  low : ∀ c ∈ x.cps.toList, lowC c
theorem Lo.cut {w : Nat} {x : Str} {lo hi : Option Int} (h : Lo w x) : Lo w (L2.cutS x lo hi) := by
  refine ⟨?_, fun c hc => ?_⟩
  · refine Nat.le_trans ?_ h.le
    unfold L2.cutS
    show ((List.take _ _).toArray).size ≤ x.cps.size
    rw [List.size_toArray, List.length_take, List.length_drop, Array.length_toList]
    omega
  · have : c ∈ x.cps.toList := by
      unfold L2.cutS at hc
      exact List.mem_of_mem_drop (List.mem_of_mem_take (by simpa using hc))
    exact h.low c this
theorem app_cps {x y : Str} : (x ++ y).cps.toList = x.cps.toList ++ y.cps.toList := by
  show (x.cps ++ y.cps).toList = _
  rw [Array.toList_append]
theorem app_len {x y : Str} : (x ++ y).length = x.length + y.length := by
  show (x.cps ++ y.cps).size = _
  rw [Array.size_append]
  rfl
theorem Lo.app {w v : Nat} {x y : Str} (h : Lo w x) (h' : Lo v y) : Lo (w + v) (x ++ y) := by
  refine ⟨by rw [app_len]; exact Nat.add_le_add h.le h'.le, fun c hc => ?_⟩
  rw [app_cps] at hc
  rcases List.mem_append.mp hc with hc | hc
  · exact h.low c hc
  · exact h'.low c hc
theorem Lo.one {c : Nat} (h : lowC c) : Lo 1 ⟨#[c]⟩ := ⟨Nat.le_refl _, fun d hd => by
  have : d = c := by simpa using hd
  rw [this]; exact h⟩
theorem cut_to_len {x : Str} {k : Nat} (h : k ≤ x.length) : (L2.cutS x none (some (k : Int))).cps.toList = x.cps.toList.take k := by
  unfold L2.cutS
  rw [HT.sIx_none, HT.sIx_nat]
  simp [Str.length] at h ⊢
theorem cut_from_len {x : Str} {k : Nat} (h : k ≤ x.length) : (L2.cutS x (some (k : Int)) none).cps.toList = x.cps.toList.drop k := by
  unfold L2.cutS
  rw [HT.sIx_none, HT.sIx_nat]
  simp [Str.length] at h ⊢
  rw [Nat.min_eq_left h, List.take_of_length_le]
  rw [List.length_drop, Array.length_toList]
  exact Nat.le_refl _
theorem len_cps {x : Str} : x.cps.toList.length = x.length := by simp [Str.length]
theorem lowJoin : ∀ {zs : List Str}, (∀ z ∈ zs, Lo 1 z ∧ z.length = 1) → ∀ c ∈ (Txt.join (Str.ofString "") zs).cps.toList, lowC c := by
  intro zs h
  have key : ∀ (ps : List Str) (acc : Array Nat), (∀ z ∈ ps, Lo 1 z ∧ z.length = 1) → (∀ c ∈ acc.toList, lowC c) → ∀ c ∈ (ps.foldl (fun acc p => acc ++ (Str.ofString "").cps ++ p.cps) acc).toList, lowC c := by
    intro ps
    induction ps with
    | nil => intro acc _ h c hc; exact h c hc
    | cons p ps ih =>
      intro acc hz ha c hc
      rw [List.foldl_cons] at hc
      refine ih _ (fun z hm => hz z (List.mem_cons_of_mem _ hm)) (fun c hc => ?_) c hc
      rw [Array.toList_append, Array.toList_append] at hc
      rcases List.mem_append.mp hc with hc | hc
      · rcases List.mem_append.mp hc with hc | hc
        · exact ha c hc
        · exact absurd hc (by rw [show (Str.ofString "").cps.toList = [] from rfl]; exact List.not_mem_nil)
      · exact (hz p List.mem_cons_self).1.low c hc
  cases zs with
  | nil => intro c hc; exact absurd hc (by rw [show (Txt.join (Str.ofString "") []).cps.toList = [] from rfl]; exact List.not_mem_nil)
  | cons z r => exact key r z.cps (fun y hy => h y (List.mem_cons_of_mem _ hy)) (fun c hc => (h z List.mem_cons_self).1.low c hc)
/-! ### names are told -/
theorem sign_in {c : Nat} {z : Str} {s : S} {E : PV → S → Prop} {Q : PV → S → Prop} : Okx E (lft (inP false (.str ⟨#[c]⟩) (.str z))) s Q ↔ Q (.bl (decide (c ∈ z.cps.toList))) s := by
  rw [ok_lft]
  unfold inP
  simp
def nameB (x : Str) : Bool := decide (0 < x.length) && (decide (x.length ≤ 8) && x.cps.toList.all fun c => decide (lowC c))
theorem nameB_iff {x : Str} : nameB x = true ↔ Nm x := by
  unfold nameB
  simp only [Bool.and_eq_true, decide_eq_true_eq, List.all_eq_true]
  exact ⟨fun h => ⟨h.1, h.2.1, h.2.2⟩, fun h => ⟨h.pos, h.le, h.low⟩⟩
theorem it_S {x : Str} {R : List PV → Prop} : (∃ z, itemsP (.str x) = some z ∧ R z) ↔ R (x.cps.toList.map fun c => .str ⟨#[c]⟩) := by simp [itemsP, signsP]
set_option maxHeartbeats 4000000 in
theorem eq_is_name {n : Nat} {x : Str} {st : List MO} (hx : x.length ≤ 16777216) : m_is_name n [.str x] st = .ok (.bl (nameB x)) st := by
  have hz : sizeLine = 16777216 := sizeLine_eq
  refine OkFx.eq ?_
  unfold m_is_name
  refine okF_fn rfl ?_
  unfold b_is_name
  walk_at "st"
  refine ⟨by omega, ?_⟩
  walk_at "st"
  unfold nameB
  split
  · rename_i h1
    split
    · rename_i h2
      walk_at "st"
      rw [it_S]
      refine ok_lcT (fun c => PV.str ⟨#[c]⟩) (fun _ => true) (fun c => PV.bl (decide (lowC c))) rfl (by simp) (by rw [len_cps]; omega) (fun _ => rfl) (fun c hc => ?_) (fun c hc _ => ?_) ?_
      · walk_at "st"
      · walk_at "st"
        rw [sign_in]
        exact ⟨rfl, rfl⟩
      · rw [filter_true]
        refine ok_allM.mpr ?_
        have h1' : 0 < x.length := by omega
        have h2' : x.length ≤ 8 := by omega
        simp [h1', h2', rtK]
    · rename_i h2
      walk_at "st"
      have h2' : ¬ x.length ≤ 8 := by omega
      simp [h2', rtK]
  · rename_i h1
    walk_at "st"
    have h1' : ¬ 0 < x.length := by omega
    simp [h1', rtK]
end Lw
/-! C2s: the names of the laws from k26 on, without their being different (smaller). -/
namespace Lw
open PySem Dn
open L2 hiding bin
local macro_rules | `(tactic| walk_at "st") => `(tactic| try simp only [ok_ret, ok_bnd, ok_bin, ok_var, varK_val, varK_own, pv_val, pv_own, ok_asB, asBK_bl, ok_andT, ok_orT, ok_notT, ok_iteT, ok_andV, ok_notV, blK_bl,
  ok_argN, ok_argC, ok_fits, ok_tupM, ok_lstM, ok_parN, ok_parS, intK_int, ok_slM, ok_joinM, strK_str, ok_itemsM, ok_rngM, ok_seqM, seqK_nx, seqK_rt, seqK_bk, seqK_ct, ok_ifM, ok_retM, ok_dropM, ok_skipM, ok_asgM, ok_asgO, ok_par2, ok_par2VO, ok_par3,
  ok_callM, rtK_rt, rtK_nx, ok_loopM, ok_lcM, ok_dispM, ok_prsN, ok_prsC, ok_hget0, getK_some, ok_hputM, putK0, pc, pb, pl, ppb, ppl, plen, ok_add, ok_addS, ok_addT, ok_addL, ok_sub, ok_mul, ok_ixL, ok_ixT, ok_unp, unpK_tup, ok_set0, ok_setC, ok_app, flK_nx, flK_ct, flK_bk, flK_rt, sl_L, sl_T, sl_S, it_L, it_T, wip, ok_div, ok_mod, ok_pow, ok_rep, ok_ord, ok_fInt, ok_fAbs, ok_lenL, ok_lenT, ok_lenS, ok_fListL, ok_fListT, ok_fTupleL, ok_fTupleT, ok_eqI, ok_eqB, ok_eqS,
  okF_ok, okF_exc, ok_runM, ok_appA, ok_len1, ok_argS, starK_tup, starK_lst, ok_chain, isNonB_non, isNonB_int, isNonB_bl, isNonB_str, isNonB_tup, isNonB_lst, isNonB_obj, ok_isN, ok_max, ok_min, isi_int_int, isi_int_bl, isi_int_non, isi_int_str, isi_int_tup, isi_int_lst, isi_bool_int, isi_bool_bl, isi_str_str, isi_str_int, isi_str_bl, isi_str_non, isi_str_tup, isi_str_lst, isi_tuple_tup, isi_tuple_int, isi_tuple_bl, isi_tuple_non, isi_tuple_str, isi_tuple_lst,
  ok_conM, ok_fputM, fputK_new, conV_new, ok_makeM, ok_methM,
  List.map_cons, List.map_nil, List.replicate_succ, List.replicate_zero, List.cons_append, List.nil_append, List.append_nil, List.getElem?_cons_zero, List.getElem?_cons_succ, List.set_cons_zero, List.set_cons_succ, Nat.reduceSub, decide_eq_true_eq, if_true, if_false, Bool.false_eq_true, Bool.not_true, Bool.not_false, beq_self_eq_true, Bool.true_eq_false, bne_self_eq_false, Bool.bne_true, Bool.bne_false, Nat.zero_add, Nat.reduceAdd, true_and, and_true, reduceCtorEq, List.length_cons, List.length_nil])
set_option maxHeartbeats 8000000 in
theorem sp_names {n : Nat} {B : Int} {k : Int} {cells : List Int} {g st : List MO} {Q : PV → List MO → Prop} (hbt : Bt cells) (hp : Pn cells B g st) (hB : B < 100000000) (hk : 0 ≤ k ∧ k ≤ 26)
    (h : ∀ (ss : List Str) st', ss.length = k.toNat → (∀ x ∈ ss, Nm x) → Pn cells (B + 50) g st' → Q (.lst (ss.map .str)) st') : OkF (m_law_names n [.hnd 0, .int k] st) Q := by
  have hz : sizeLine = 16777216 := sizeLine_eq
  unfold m_law_names
  refine okF_fn rfl ?_
  unfold b_law_names
  walk_at "st"
  refine ⟨by omega, ?_⟩
  refine sp_draw hbt hp (by omega) (by omega) fun r st1 h0 h1 hp1 => ?_
  walk_at "st"
  refine ⟨_, rngP_nat (by omega) (by omega), ?_⟩
  refine ok_lcEach (fun j st => Pn cells (B + 1 + (j : Int)) g st) (fun y => ∃ x : Str, y = .str x ∧ (Lo 1 x ∧ x.length = 1)) rfl (by simp) (by rw [rng_len]; omega) (hp1.mono (by omega)) (fun _ => rfl) ?_ ?_
  · intro j x st hx hp
    obtain ⟨rfl, hj⟩ := rng_get hx
    walk_at "st"
    refine sp_pickS hbt hp (by decide) (by omega) fun c st' hc hp' => ?_
    exact ⟨⟨_, rfl, Lo.one hc, rfl⟩, hp'.mono (by simp; omega)⟩
  intro ys st3 hl hy hp3
  obtain ⟨zs, rfl, hzs⟩ := ex_map hy
  rw [rng_len, List.length_map] at hl
  rw [rng_len] at hp3
  have hj : (zs.map (·.length)).sum + zs.length * (Str.ofString "").length ≤ 16777216 := by
    have h1 := sum_le (w := 1) (zs := zs) fun z hz => (hzs z hz).1.le
    have h2 : zs.length * (Str.ofString "").length = 0 := Nat.mul_zero _
    omega
  refine ⟨_, joinP_map hj, ?_⟩
  have hlen : (Txt.join (Str.ofString "") zs).length = zs.length := join_one zs fun z hz => (hzs z hz).2
  have hstem : Lo 8 (Txt.join (Str.ofString "") zs) := ⟨by omega, lowJoin hzs⟩
  have hpos : 0 < (Txt.join (Str.ofString "") zs).length := by omega
  generalize Txt.join (Str.ofString "") zs = stem at hstem hlen hpos
  have hst := hstem.le
  walk_at "st"
  refine ⟨by omega, ?_⟩
  refine sp_draw hbt hp3 (by omega) (by omega) fun at' st4 ha0 ha1 hp4 => ?_
  walk_at "st"
  refine sp_draw hbt hp4 (by omega) (by omega) fun fi st5 hf0 hf1 hp5 => ?_
  walk_at "st"
  refine ⟨by omega, ?_⟩
  refine sp_pickL hbt hp5 (by decide) (by omega) fun v st7 hv hp7 => ?_
  obtain ⟨gg, rfl, hg⟩ : ∃ g : Int, v = .int g ∧ (g = 1 ∨ g = 3 ∨ g = 5 ∨ g = 7 ∨ g = 9 ∨ g = 11 ∨ g = 15 ∨ g = 17 ∨ g = 19 ∨ g = 21 ∨ g = 23 ∨ g = 25) := by
    simp only [List.mem_cons, List.not_mem_nil, or_false] at hv
    rcases hv with rfl | rfl | rfl | rfl | rfl | rfl | rfl | rfl <;> exact ⟨_, rfl, by decide⟩
  walk_at "st"
  refine ⟨_, rngP_nat (by omega) (by omega), ?_⟩
  obtain ⟨a, rfl⟩ := Int.eq_ofNat_of_zero_le ha0
  have hal : a < stem.length := by omega
  refine ok_for (fun j s => ∃ e8 e9 fs st', s = ⟨[some (SV.val (PV.hnd 0)), some (SV.val (PV.int k)), some (SV.val (PV.str AZ)), some (SV.own (fs.map PV.str)), some (SV.val (PV.str stem)), some (SV.val (PV.int a)), some (SV.val (PV.int fi)), some (SV.val (PV.int gg)), e8, e9], st'⟩ ∧ fs.length = j ∧ (∀ x ∈ fs, Nm x) ∧ Pn cells (B + 1 + 8 + 3 + (j : Int)) g st') ⟨none, none, [], _, rfl, rfl, (fun x hx => by cases hx), hp7.mono (by omega)⟩ ?_ ?_
  · rintro j x s hx ⟨e8, e9, fs, st', rfl, hfl, hfs, hpj⟩
    obtain ⟨rfl, hj⟩ := rng_get hx
    walk_at "st"
    refine sp_draw hbt hpj (by omega) (by omega) fun d st8 hd0 hd1 hp8 => ?_
    walk_at "st"
    have hs1 : Lo 8 (L2.cutS stem (some ((a : Int) + 1)) none) := hstem.cut
    have hs2 : Lo 8 (L2.cutS stem none (some (a : Int))) := hstem.cut
    have e1 := cut_from_len (x := stem) (k := a + 1) (by omega)
    have e2 := cut_to_len (x := stem) (k := a) (by omega)
    have l1 : (L2.cutS stem (some ((a : Int) + 1)) none).length = stem.length - (a + 1) := by rw [← len_cps, show ((a : Int) + 1) = ((a + 1 : Nat) : Int) by omega, e1, List.length_drop, len_cps]
    have l2 : (L2.cutS stem none (some (a : Int))).length = a := by rw [← len_cps, e2, List.length_take, len_cps]; omega
    have hlt : AZ.length ≤ sizeLine := by rw [hz]; decide
    obtain ⟨c, hc, hcm⟩ := atI_in (ds := AZ.cps.toList) (k := (fi + gg * (j : Int)) % 26) (Int.emod_nonneg _ (by decide)) (Int.emod_lt_of_pos _ (by decide))
    have hc1 : Lo 1 ⟨#[c]⟩ := Lo.one hcm
    have key : ∀ (tl : Str), Lo 8 tl → tl.length ≤ stem.length - (a + 1) → ((L2.cutS stem none (some (a : Int))).length + (⟨#[c]⟩ : Str).length ≤ sizeLine ∧ (L2.cutS stem none (some (a : Int)) ++ ⟨#[c]⟩).length + tl.length ≤ sizeLine) ∧ Nm (L2.cutS stem none (some (a : Int)) ++ ⟨#[c]⟩ ++ tl) := fun tl htl hll => by
      have l0 : (⟨#[c]⟩ : Str).length = 1 := rfl
      have l1 : (L2.cutS stem none (some (a : Int)) ++ ⟨#[c]⟩).length = a + 1 := by rw [app_len, l2]; rfl
      have l3 : (L2.cutS stem none (some (a : Int)) ++ ⟨#[c]⟩ ++ tl).length = a + 1 + tl.length := by rw [app_len, l1]
      exact ⟨⟨by rw [l2, l0]; omega, by rw [l1]; omega⟩, ⟨by omega, by omega, ((hs2.app hc1).app htl).low⟩⟩
    have step : ∀ (tl : Str) (e9 : Option SV), Lo 8 tl → tl.length ≤ stem.length - (a + 1) → ∃ (e8 e9' : Option SV) (fs' : List Str) (st' : List MO), (⟨[some (SV.val (PV.hnd 0)), some (SV.val (PV.int k)), some (SV.val (PV.str AZ)), some (SV.own (fs.map PV.str ++ [PV.str (L2.cutS stem none (some (a : Int)) ++ ⟨#[c]⟩ ++ tl)])), some (SV.val (PV.str stem)), some (SV.val (PV.int a)), some (SV.val (PV.int fi)), some (SV.val (PV.int gg)), some (SV.val (PV.int j)), e9], st8⟩ : S) = ⟨[some (SV.val (PV.hnd 0)), some (SV.val (PV.int k)), some (SV.val (PV.str AZ)), some (SV.own (fs'.map PV.str)), some (SV.val (PV.str stem)), some (SV.val (PV.int a)), some (SV.val (PV.int fi)), some (SV.val (PV.int gg)), e8, e9'], st'⟩ ∧ fs'.length = j + 1 ∧ (∀ x ∈ fs', Nm x) ∧ Pn cells (B + 1 + 8 + 3 + ((j + 1 : Nat) : Int)) g st' := fun tl e9 htl hll => by
      obtain ⟨_, hnm⟩ := key tl htl hll
      refine ⟨_, _, fs ++ [_], _, by rw [List.map_append]; rfl, by rw [List.length_append, hfl]; rfl, fun x hx => ?_, hp8.mono (by omega)⟩
      rcases List.mem_append.mp hx with hx | hx
      · exact hfs x hx
      · rw [List.mem_singleton.mp hx]
        exact hnm
    have hfl2 : (fs.map PV.str).length < sizeLine := by rw [List.length_map]; omega
    split
    · obtain ⟨⟨k1, k2⟩, _⟩ := key _ hs1 (by omega)
      walk_at "st"
      refine ⟨by omega, ⟨_, rfl⟩, by omega, cmul100 (by omega) (by omega), by decide, ?_⟩
      rw [ok_ixS hlt]
      refine ⟨c, hc, ?_⟩
      walk_at "st"
      refine ⟨k1, k2, ?_⟩
      rw [ok_push rfl hfl2]
      walk_at "st"
      exact step _ _ hs1 (by omega)
    · have hem : Lo 8 (Str.ofString "") := ⟨Nat.zero_le _, fun c hc => absurd hc (by rw [show (Str.ofString "").cps.toList = [] from rfl]; exact List.not_mem_nil)⟩
      obtain ⟨⟨k1, k2⟩, _⟩ := key _ hem (Nat.zero_le _)
      walk_at "st"
      refine ⟨⟨_, rfl⟩, by omega, cmul100 (by omega) (by omega), by decide, ?_⟩
      rw [ok_ixS hlt]
      refine ⟨c, hc, ?_⟩
      walk_at "st"
      refine ⟨k1, k2, ?_⟩
      rw [ok_push rfl hfl2]
      walk_at "st"
      exact step _ _ hem (Nat.zero_le _)
  · rintro s ⟨e8, e9, fs, st', rfl, hfl, hfs, hpj⟩
    walk_at "st"
    refine h fs st' ?_ hfs (hpj.mono (by rw [rng_len]; omega))
    rw [hfl, rng_len]
end Lw
/-! O3: offices: their values, how they are made. -/
namespace Lw
open PySem Dn
open L2 hiding bin
local macro_rules | `(tactic| walk_at "st") => `(tactic| try simp only [ok_ret, ok_bnd, ok_bin, ok_var, varK_val, varK_own, pv_val, pv_own, ok_asB, asBK_bl, ok_andT, ok_orT, ok_notT, ok_iteT, ok_andV, ok_notV, blK_bl,
  ok_argN, ok_argC, ok_fits, ok_tupM, ok_lstM, ok_parN, ok_parS, intK_int, ok_slM, ok_joinM, strK_str, ok_itemsM, ok_rngM, ok_seqM, seqK_nx, seqK_rt, seqK_bk, seqK_ct, ok_ifM, ok_retM, ok_dropM, ok_skipM, ok_asgM, ok_asgO, ok_par2, ok_par2VO, ok_par3,
  ok_callM, rtK_rt, rtK_nx, ok_loopM, ok_lcM, ok_dispM, ok_prsN, ok_prsC, ok_hget0, getK_some, ok_hputM, putK0, pc, pb, pl, ppb, ppl, plen, ok_add, ok_addS, ok_addT, ok_addL, ok_sub, ok_mul, ok_ixL, ok_ixT, ok_unp, unpK_tup, ok_set0, ok_setC, ok_app, flK_nx, flK_ct, flK_bk, flK_rt, sl_L, sl_T, sl_S, it_L, it_T, wip, ok_div, ok_mod, ok_pow, ok_rep, ok_ord, ok_fInt, ok_fAbs, ok_lenL, ok_lenT, ok_lenS, ok_fListL, ok_fListT, ok_fTupleL, ok_fTupleT, ok_eqI, ok_eqB, ok_eqS,
  okF_ok, okF_exc, ok_runM, ok_appA, ok_len1, ok_argS, starK_tup, starK_lst, ok_chain, isNonB_non, isNonB_int, isNonB_bl, isNonB_str, isNonB_tup, isNonB_lst, isNonB_obj, ok_isN, ok_max, ok_min, isi_int_int, isi_int_bl, isi_int_non, isi_int_str, isi_int_tup, isi_int_lst, isi_bool_int, isi_bool_bl, isi_str_str, isi_str_int, isi_str_bl, isi_str_non, isi_str_tup, isi_str_lst, isi_tuple_tup, isi_tuple_int, isi_tuple_bl, isi_tuple_non, isi_tuple_str, isi_tuple_lst,
  ok_conM, ok_fputM, fputK_new, conV_new, ok_makeM, ok_methM,
  List.map_cons, List.map_nil, List.replicate_succ, List.replicate_zero, List.cons_append, List.nil_append, List.append_nil, List.getElem?_cons_zero, List.getElem?_cons_succ, List.set_cons_zero, List.set_cons_succ, Nat.reduceSub, decide_eq_true_eq, if_true, if_false, Bool.false_eq_true, Bool.not_true, Bool.not_false, beq_self_eq_true, Bool.true_eq_false, bne_self_eq_false, Bool.bne_true, Bool.bne_false, Nat.zero_add, Nat.reduceAdd, true_and, and_true, reduceCtorEq, List.length_cons, List.length_nil])
local macro_rules | `(tactic| walk_at "sx") => `(tactic| try simp only [ok_ret, ok_bnd, ok_bin, ok_var, varK_val, varK_own, pv_val, pv_own, ok_asB, asBK_bl, ok_andT, ok_orT, ok_notT, ok_iteT, ok_andV, ok_notV, blK_bl,
  ok_argN, ok_argC, ok_fits, ok_tupM, ok_lstM, ok_parN, ok_parS, intK_int, ok_slM, ok_joinM, strK_str, ok_itemsM, ok_rngM, seqK_nx, seqK_rt, seqK_bk, seqK_ct, ok_ifM, ok_retM, ok_dropM, ok_skipM, ok_asgM, ok_asgO, ok_par2, ok_par2VO, ok_par3,
  ok_callM, rtK_rt, rtK_nx, ok_loopM, ok_lcM, ok_dispM, ok_prsN, ok_prsC, ok_hget0, getK_some, ok_hputM, putK0, pc, pb, pl, ppb, ppl, plen, ok_add, ok_addS, ok_addT, ok_addL, ok_sub, ok_mul, ok_ixL, ok_ixT, ok_unp, unpK_tup, ok_set0, ok_setC, ok_app, flK_nx, flK_ct, flK_bk, flK_rt, sl_L, sl_T, sl_S, it_L, it_T, wip, ok_div, ok_mod, ok_pow, ok_rep, ok_ord, ok_fInt, ok_fAbs, ok_lenL, ok_lenT, ok_lenS, ok_fListL, ok_fListT, ok_fTupleL, ok_fTupleT, ok_eqI, ok_eqB, ok_eqS,
  okF_ok, okF_exc, ok_runM, ok_appA, ok_len1, ok_argS, starK_tup, starK_lst, ok_chain, isNonB_non, isNonB_int, isNonB_bl, isNonB_str, isNonB_tup, isNonB_lst, isNonB_obj, ok_isN, ok_max, ok_min, isi_int_int, isi_int_bl, isi_int_non, isi_int_str, isi_int_tup, isi_int_lst, isi_bool_int, isi_bool_bl, isi_str_str, isi_str_int, isi_str_bl, isi_str_non, isi_str_tup, isi_str_lst, isi_tuple_tup, isi_tuple_int, isi_tuple_bl, isi_tuple_non, isi_tuple_str, isi_tuple_lst,
  ok_conM, ok_fputM, fputK_new, conV_new, ok_makeM, ok_methM,
  List.map_cons, List.map_nil, List.replicate_succ, List.replicate_zero, List.cons_append, List.nil_append, List.append_nil, List.getElem?_cons_zero, List.getElem?_cons_succ, List.set_cons_zero, List.set_cons_succ, Nat.reduceSub, decide_eq_true_eq, if_true, if_false, Bool.false_eq_true, Bool.not_true, Bool.not_false, beq_self_eq_true, Bool.true_eq_false, bne_self_eq_false, Bool.bne_true, Bool.bne_false, Nat.zero_add, Nat.reduceAdd, true_and, and_true, reduceCtorEq, List.length_cons, List.length_nil])
structure OfV where
  nm : Str
  src : Str
  dst : Str
  p : Int
  q : Int
  fee : Int
  least : Int
  most : Option Int
deriving DecidableEq
def OfV.mostV (o : OfV) : PV := match o.most with
  | none => .non
  | some m => .int m
structure OfV.Wf (o : OfV) : Prop where
  nm : Nm o.nm
  src : Nm o.src
  dst : Nm o.dst
  p : 1 ≤ o.p ∧ o.p ≤ 9
  q : 1 ≤ o.q ∧ o.q ≤ 9
  fee : 0 ≤ o.fee ∧ o.fee ≤ 20
  least : 0 ≤ o.least ∧ o.least ≤ 1000
  most : ∀ m, o.most = some m → o.least ≤ m ∧ m ≤ 1000000
def OfV.row (o : OfV) : PV := .tup [.str o.nm, .str o.src, .str o.dst, .tup [.int o.p, .int o.q], .int o.fee, .int o.least, o.mostV]
abbrev KS5 : List Str := ["name", "own_ends", "own_rate", "own_fee", "own_least"]
abbrev KS6 : List Str := ["name", "own_ends", "own_rate", "own_fee", "own_least", "own_most"]
abbrev OfV.vs5 (o : OfV) : List PV := [.str o.nm, .tup [.str o.src, .str o.dst], .tup [.int o.p, .int o.q], .int o.fee, .int o.least]
abbrev OfV.vs6 (o : OfV) (m : Int) : List PV := [.str o.nm, .tup [.str o.src, .str o.dst], .tup [.int o.p, .int o.q], .int o.fee, .int o.least, .int m]
def OfV.pv (o : OfV) : PV := match o.most with
  | none => .obj "Office" KS5 o.vs5
  | some m => .obj "CappedOffice" KS6 (o.vs6 m)
theorem OfV.pv_none {o : OfV} (h : o.most = none) : o.pv = .obj "Office" KS5 o.vs5 := by unfold OfV.pv; rw [h]
theorem OfV.pv_some {o : OfV} {m : Int} (h : o.most = some m) : o.pv = .obj "CappedOffice" KS6 (o.vs6 m) := by unfold OfV.pv; rw [h]
def OfV.cap (o : OfV) (a : Int) : Int := match o.most with
  | none => a
  | some m => min a m
def OfV.val (o : OfV) (a : Int) : Int := max 0 (o.cap a * o.p / o.q - o.fee)
def OfV.res (o : OfV) (a : Int) : PV := if o.cap a < o.least then .non else .int (o.val a)
/-! ### checks -/
def inB (lo hi a : Int) : Bool := decide (lo ≤ a) && decide (a ≤ hi)
set_option maxHeartbeats 4000000 in
theorem eq_is_integer {n : Nat} {a lo hi : Int} {st : List MO} : m_is_integer n [.int a, .int lo, .int hi] st = .ok (.bl (inB lo hi a)) st := by
  refine OkFx.eq ?_
  unfold m_is_integer
  refine okF_fn rfl ?_
  unfold b_is_integer inB
  walk_at "st"
  by_cases h : lo ≤ a <;> simp [h, rtK]
set_option maxHeartbeats 4000000 in
theorem eq_need_name {n : Nat} {x : Str} {st : List MO} (h : Nm x) : m_need_name n [.str x] st = .ok .non st := by
  refine OkFx.eq ?_
  unfold m_need_name
  refine okF_fn rfl ?_
  unfold b_need_name
  walk_at "st"
  rw [eq_is_name (by have := h.le; omega)]
  walk_at "st"
  rw [nameB_iff.mpr h]
  simp [rtK]
set_option maxHeartbeats 4000000 in
theorem eq_need_integer {n : Nat} {a lo hi : Int} {st : List MO} (h : lo ≤ a ∧ a ≤ hi) : m_need_integer n [.int a, .int lo, .int hi] st = .ok .non st := by
  refine OkFx.eq ?_
  unfold m_need_integer
  refine okF_fn rfl ?_
  unfold b_need_integer
  walk_at "st"
  rw [eq_is_integer]
  walk_at "st"
  simp [inB, h.1, h.2, rtK]
set_option maxHeartbeats 4000000 in
theorem eq_is_rate {n : Nat} {p q : Int} {st : List MO} (hp : 1 ≤ p ∧ p ≤ 9) (hq : 1 ≤ q ∧ q ≤ 9) : m_is_rate n [.tup [.int p, .int q]] st = .ok (.bl true) st := by
  have hz : sizeLine = 16777216 := sizeLine_eq
  refine OkFx.eq ?_
  unfold m_is_rate
  refine okF_fn rfl ?_
  unfold b_is_rate
  walk_at "st"
  simp
  walk_at "st"
  refine ok_lcT (as := [p, q]) PV.int (fun _ => true) (fun _ => PV.bl true) rfl (by simp) (by rw [hz]; simp) (fun _ => rfl) (fun c hc => ?_) (fun c hc _ => ?_) ?_
  · walk_at "st"
  · walk_at "st"
    rw [eq_is_integer]
    walk_at "st"
    simp only [List.mem_cons, List.not_mem_nil, or_false] at hc
    rcases hc with rfl | rfl <;> simp [inB, hp, hq]
  · rw [filter_true]
    refine ok_allM.mpr ?_
    simp [rtK]
/-! ### offices made -/
def isOff (c : Str) : Prop := c = "Office" ∨ c = "CappedOffice"
theorem isOff.mem {c : Str} (h : isOff c) : c ∈ (["Office", "CappedOffice"] : List Str) := by
  rcases h with rfl | rfl <;> decide +kernel
theorem putKV_new {f : Str} {v : PV} : ∀ {ks : List Str} {vs : List PV}, f ∉ ks → ks.length = vs.length → putKV f v ks vs = (ks ++ [f], vs ++ [v])
  | [], [], _, _ => rfl
  | k :: ks, w :: vs, h, hl => by
    have h1 : ¬ k = f := fun e => h (by rw [e]; exact List.mem_cons_self)
    have ih := putKV_new (f := f) (v := v) (ks := ks) (vs := vs) (fun m => h (List.mem_cons_of_mem _ m)) (by simpa using hl)
    unfold putKV
    rw [if_neg h1, ih]
    rfl
  | [], _ :: _, _, hl => by cases hl
  | _ :: _, [], _, hl => by cases hl
theorem pk1 {v : PV} : putKV "name" v [] [] = ((["name"] : List Str), ([v] : List PV)) := rfl
theorem pk2 {a v : PV} : putKV "own_ends" v ["name"] [a] = ((["name", "own_ends"] : List Str), ([a, v] : List PV)) := putKV_new (by decide +kernel) rfl
theorem pk3 {a b v : PV} : putKV "own_rate" v ["name", "own_ends"] [a, b] = ((["name", "own_ends", "own_rate"] : List Str), ([a, b, v] : List PV)) := putKV_new (by decide +kernel) rfl
theorem pk4 {a b c v : PV} : putKV "own_fee" v ["name", "own_ends", "own_rate"] [a, b, c] = ((["name", "own_ends", "own_rate", "own_fee"] : List Str), ([a, b, c, v] : List PV)) := putKV_new (by decide +kernel) rfl
theorem pk5 {a b c d v : PV} : putKV "own_least" v ["name", "own_ends", "own_rate", "own_fee"] [a, b, c, d] = (KS5, [a, b, c, d, v]) := putKV_new (by decide +kernel) rfl
theorem pk6 {a b c d e v : PV} : putKV "own_most" v KS5 [a, b, c, d, e] = (KS6, [a, b, c, d, e, v]) := putKV_new (by decide +kernel) rfl
set_option maxHeartbeats 4000000 in
theorem eq_Office_init {n : Nat} {c : Str} {o : OfV} {st : List MO} (hc : isOff c) (h : o.Wf) : m_Office_init n [.hnd st.length, .str o.nm, .str o.src, .str o.dst, .tup [.int o.p, .int o.q], .int o.fee, .int o.least] (mkS st c [] []) = .ok .non (mkS st c KS5 o.vs5) := by
  have hz : sizeLine = 16777216 := sizeLine_eq
  refine OkFx.eq ?_
  unfold m_Office_init
  refine okF_fn rfl ?_
  unfold b_Office_init
  refine ok_seq ?_
  walk_at "sx"
  refine ⟨by omega, ?_⟩
  refine ok_for (fun j s => ∃ e7, s = ⟨[some (SV.val (PV.hnd st.length)), some (SV.val (PV.str o.nm)), some (SV.val (PV.str o.src)), some (SV.val (PV.str o.dst)), some (SV.val (PV.tup [.int o.p, .int o.q])), some (SV.val (PV.int o.fee)), some (SV.val (PV.int o.least)), e7], mkS st c [] []⟩) ⟨none, rfl⟩ ?_ ?_
  · rintro j x s hx ⟨e7, rfl⟩
    have hm := List.mem_of_getElem? hx
    obtain ⟨y, rfl, hy⟩ : ∃ y : Str, x = .str y ∧ Nm y := by
      simp only [List.mem_cons, List.not_mem_nil, or_false] at hm
      rcases hm with rfl | rfl | rfl
      · exact ⟨_, rfl, h.nm⟩
      · exact ⟨_, rfl, h.src⟩
      · exact ⟨_, rfl, h.dst⟩
    walk_at "st"
    rw [eq_need_name hy]
    walk_at "st"
    exact ⟨_, rfl⟩
  rintro s ⟨e7, rfl⟩
  walk_at "st"
  rw [eq_is_rate h.p h.q]
  walk_at "st"
  refine ⟨⟨hc.mem, rfl⟩, ?_⟩
  rw [eq_need_integer h.fee]
  walk_at "st"
  refine ⟨⟨hc.mem, rfl⟩, ?_⟩
  rw [eq_need_integer h.least]
  walk_at "st"
  simp only [pk1, pk2, pk3, pk4, pk5, List.length_cons, List.length_nil, hc.mem, true_and]
  refine ⟨by decide, by omega, ?_⟩
  walk_at "st"
  trivial
end Lw
/-! O4: offices made and asked (without the law's own). -/
namespace Lw
open PySem Dn
open L2 hiding bin
local macro_rules | `(tactic| walk_at "st") => `(tactic| try simp only [ok_ret, ok_bnd, ok_bin, ok_var, varK_val, varK_own, pv_val, pv_own, ok_asB, asBK_bl, ok_andT, ok_orT, ok_notT, ok_iteT, ok_andV, ok_notV, blK_bl,
  ok_argN, ok_argC, ok_fits, ok_tupM, ok_lstM, ok_parN, ok_parS, intK_int, ok_slM, ok_joinM, strK_str, ok_itemsM, ok_rngM, ok_seqM, seqK_nx, seqK_rt, seqK_bk, seqK_ct, ok_ifM, ok_retM, ok_dropM, ok_skipM, ok_asgM, ok_asgO, ok_par2, ok_par2VO, ok_par3,
  ok_callM, rtK_rt, rtK_nx, ok_loopM, ok_lcM, ok_dispM, ok_prsN, ok_prsC, ok_hget0, getK_some, ok_hputM, putK0, pc, pb, pl, ppb, ppl, plen, ok_add, ok_addS, ok_addT, ok_addL, ok_sub, ok_mul, ok_ixL, ok_ixT, ok_unp, unpK_tup, ok_set0, ok_setC, ok_app, flK_nx, flK_ct, flK_bk, flK_rt, sl_L, sl_T, sl_S, it_L, it_T, wip, ok_div, ok_mod, ok_pow, ok_rep, ok_ord, ok_fInt, ok_fAbs, ok_lenL, ok_lenT, ok_lenS, ok_fListL, ok_fListT, ok_fTupleL, ok_fTupleT, ok_eqI, ok_eqB, ok_eqS,
  okF_ok, okF_exc, ok_runM, ok_appA, ok_len1, ok_argS, starK_tup, starK_lst, ok_chain, isNonB_non, isNonB_int, isNonB_bl, isNonB_str, isNonB_tup, isNonB_lst, isNonB_obj, ok_isN, ok_max, ok_min, isi_int_int, isi_int_bl, isi_int_non, isi_int_str, isi_int_tup, isi_int_lst, isi_bool_int, isi_bool_bl, isi_str_str, isi_str_int, isi_str_bl, isi_str_non, isi_str_tup, isi_str_lst, isi_tuple_tup, isi_tuple_int, isi_tuple_bl, isi_tuple_non, isi_tuple_str, isi_tuple_lst,
  ok_conM, ok_fputM, fputK_new, conV_new, ok_makeM, ok_methM,
  List.map_cons, List.map_nil, List.replicate_succ, List.replicate_zero, List.cons_append, List.nil_append, List.append_nil, List.getElem?_cons_zero, List.getElem?_cons_succ, List.set_cons_zero, List.set_cons_succ, Nat.reduceSub, decide_eq_true_eq, if_true, if_false, Bool.false_eq_true, Bool.not_true, Bool.not_false, beq_self_eq_true, Bool.true_eq_false, bne_self_eq_false, Bool.bne_true, Bool.bne_false, Nat.zero_add, Nat.reduceAdd, true_and, and_true, reduceCtorEq, List.length_cons, List.length_nil])
local macro_rules | `(tactic| walk_at "sx") => `(tactic| try simp only [ok_ret, ok_bnd, ok_bin, ok_var, varK_val, varK_own, pv_val, pv_own, ok_asB, asBK_bl, ok_andT, ok_orT, ok_notT, ok_iteT, ok_andV, ok_notV, blK_bl,
  ok_argN, ok_argC, ok_fits, ok_tupM, ok_lstM, ok_parN, ok_parS, intK_int, ok_slM, ok_joinM, strK_str, ok_itemsM, ok_rngM, seqK_nx, seqK_rt, seqK_bk, seqK_ct, ok_ifM, ok_retM, ok_dropM, ok_skipM, ok_asgM, ok_asgO, ok_par2, ok_par2VO, ok_par3,
  ok_callM, rtK_rt, rtK_nx, ok_loopM, ok_lcM, ok_dispM, ok_prsN, ok_prsC, ok_hget0, getK_some, ok_hputM, putK0, pc, pb, pl, ppb, ppl, plen, ok_add, ok_addS, ok_addT, ok_addL, ok_sub, ok_mul, ok_ixL, ok_ixT, ok_unp, unpK_tup, ok_set0, ok_setC, ok_app, flK_nx, flK_ct, flK_bk, flK_rt, sl_L, sl_T, sl_S, it_L, it_T, wip, ok_div, ok_mod, ok_pow, ok_rep, ok_ord, ok_fInt, ok_fAbs, ok_lenL, ok_lenT, ok_lenS, ok_fListL, ok_fListT, ok_fTupleL, ok_fTupleT, ok_eqI, ok_eqB, ok_eqS,
  okF_ok, okF_exc, ok_runM, ok_appA, ok_len1, ok_argS, starK_tup, starK_lst, ok_chain, isNonB_non, isNonB_int, isNonB_bl, isNonB_str, isNonB_tup, isNonB_lst, isNonB_obj, ok_isN, ok_max, ok_min, isi_int_int, isi_int_bl, isi_int_non, isi_int_str, isi_int_tup, isi_int_lst, isi_bool_int, isi_bool_bl, isi_str_str, isi_str_int, isi_str_bl, isi_str_non, isi_str_tup, isi_str_lst, isi_tuple_tup, isi_tuple_int, isi_tuple_bl, isi_tuple_non, isi_tuple_str, isi_tuple_lst,
  ok_conM, ok_fputM, fputK_new, conV_new, ok_makeM, ok_methM,
  List.map_cons, List.map_nil, List.replicate_succ, List.replicate_zero, List.cons_append, List.nil_append, List.append_nil, List.getElem?_cons_zero, List.getElem?_cons_succ, List.set_cons_zero, List.set_cons_succ, Nat.reduceSub, decide_eq_true_eq, if_true, if_false, Bool.false_eq_true, Bool.not_true, Bool.not_false, beq_self_eq_true, Bool.true_eq_false, bne_self_eq_false, Bool.bne_true, Bool.bne_false, Nat.zero_add, Nat.reduceAdd, true_and, and_true, reduceCtorEq, List.length_cons, List.length_nil])
set_option maxHeartbeats 4000000 in
theorem eq_Capped_init {n : Nat} {o : OfV} {m : Int} {st : List MO} (h : o.Wf) (hm : o.most = some m) : m_CappedOffice_init n [.hnd st.length, .str o.nm, .str o.src, .str o.dst, .tup [.int o.p, .int o.q], .int m, .int o.fee, .int o.least] (mkS st "CappedOffice" [] []) = .ok .non (mkS st "CappedOffice" KS6 (o.vs6 m)) := by
  have hz : sizeLine = 16777216 := sizeLine_eq
  refine OkFx.eq ?_
  unfold m_CappedOffice_init
  refine okF_fn rfl ?_
  unfold b_CappedOffice_init
  refine ok_seq ?_
  walk_at "sx"
  rw [ok_sup rfl insOf_new (m := m_Office_init) rfl]
  walk_at "sx"
  rw [eq_Office_init (o := o) (.inr rfl) h]
  walk_at "st"
  refine ⟨⟨by decide +kernel, rfl⟩, ?_⟩
  rw [eq_need_integer (h.most m hm)]
  walk_at "st"
  simp only [pk6, List.length_cons, List.length_nil]
  refine ⟨⟨by decide +kernel, by decide⟩, trivial⟩
theorem mostV_none {o : OfV} (h : o.most = none) : o.mostV = .non := by unfold OfV.mostV; rw [h]
theorem mostV_some {o : OfV} {m : Int} (h : o.most = some m) : o.mostV = .int m := by unfold OfV.mostV; rw [h]
/-! ### fields -/
section
variable {o : OfV} {s : S} {E : PV → S → Prop} {Q : PV → S → Prop} {cs : List Str}
theorem fld_of (hc : (["Office", "CappedOffice"] : List Str) = cs) {f : Str} {v : PV} (h5 : (KS5.zip o.vs5).lookup f = some v) (h6 : ∀ m, (KS6.zip (o.vs6 m)).lookup f = some v) : Okx E (fldM cs f o.pv) s Q ↔ Q v s := by
  refine ok_fld ?_
  subst hc
  cases hm : o.most with
  | none =>
    rw [OfV.pv_none hm]
    unfold fldV
    rw [insOf_obj]
    exact (if_pos (by decide +kernel)).trans h5
  | some m =>
    rw [OfV.pv_some hm]
    unfold fldV
    rw [insOf_obj]
    exact (if_pos (by decide +kernel)).trans (h6 m)
theorem f_name : Okx E (fldM ["Office", "CappedOffice"] "name" o.pv) s Q ↔ Q (.str o.nm) s := fld_of rfl rfl fun _ => rfl
theorem f_ends : Okx E (fldM ["Office", "CappedOffice"] "own_ends" o.pv) s Q ↔ Q (.tup [.str o.src, .str o.dst]) s := fld_of rfl rfl fun _ => rfl
theorem f_rate : Okx E (fldM ["Office", "CappedOffice"] "own_rate" o.pv) s Q ↔ Q (.tup [.int o.p, .int o.q]) s := fld_of rfl rfl fun _ => rfl
theorem f_fee : Okx E (fldM ["Office", "CappedOffice"] "own_fee" o.pv) s Q ↔ Q (.int o.fee) s := fld_of rfl rfl fun _ => rfl
theorem f_least : Okx E (fldM ["Office", "CappedOffice"] "own_least" o.pv) s Q ↔ Q (.int o.least) s := fld_of rfl rfl fun _ => rfl
theorem f_most {m : Int} (h : o.most = some m) : Okx E (fldM ["CappedOffice"] "own_most" o.pv) s Q ↔ Q (.int m) s := by
  refine ok_fld ?_
  rw [OfV.pv_some h]
  unfold fldV
  rw [insOf_obj]
  exact (if_pos (by decide +kernel)).trans rfl
end
end Lw
/-! R1: routes: made, offices asked by properties. -/
namespace Lw
open PySem Dn
open L2 hiding bin
theorem ix20 {a b : PV} {s : S} {E : PV → S → Prop} {Q : PV → S → Prop} : Okx E (lft (ixP (.tup [a, b]) (.int 0))) s Q ↔ Q a s := by
  rw [ok_lft]
  exact ⟨fun ⟨_, e, q⟩ => by cases e; exact q, fun q => ⟨_, rfl, q⟩⟩
theorem ix21 {a b : PV} {s : S} {E : PV → S → Prop} {Q : PV → S → Prop} : Okx E (lft (ixP (.tup [a, b]) (.int 1))) s Q ↔ Q b s := by
  rw [ok_lft]
  exact ⟨fun ⟨_, e, q⟩ => by cases e; exact q, fun q => ⟨_, rfl, q⟩⟩
local macro_rules | `(tactic| walk_at "st") => `(tactic| try simp only [ok_ret, ok_bnd, ok_bin, ok_var, varK_val, varK_own, pv_val, pv_own, ok_asB, asBK_bl, ok_andT, ok_orT, ok_notT, ok_iteT, ok_andV, ok_notV, blK_bl,
  ok_argN, ok_argC, ok_fits, ok_tupM, ok_lstM, ok_parN, ok_parS, intK_int, ok_slM, ok_joinM, strK_str, ok_itemsM, ok_rngM, ok_seqM, seqK_nx, seqK_rt, seqK_bk, seqK_ct, ok_ifM, ok_retM, ok_dropM, ok_skipM, ok_asgM, ok_asgO, ok_par2, ok_par2VO, ok_par3,
  ok_callM, rtK_rt, rtK_nx, ok_loopM, ok_lcM, ok_dispM, ok_prsN, ok_prsC, ok_hget0, getK_some, ok_hputM, putK0, pc, pb, pl, ppb, ppl, plen, ok_add, ok_addS, ok_addT, ok_addL, ok_sub, ok_mul, ok_ixL, ok_ixT, ok_unp, unpK_tup, ok_set0, ok_setC, ok_app, flK_nx, flK_ct, flK_bk, flK_rt, sl_L, sl_T, sl_S, it_L, it_T, wip, ok_div, ok_mod, ok_pow, ok_rep, ok_ord, ok_fInt, ok_fAbs, ok_lenL, ok_lenT, ok_lenS, ok_fListL, ok_fListT, ok_fTupleL, ok_fTupleT, ok_eqI, ok_eqB, ok_eqS,
  okF_ok, okF_exc, ok_runM, ok_appA, ok_len1, ok_argS, starK_tup, starK_lst, ok_chain, isNonB_non, isNonB_int, isNonB_bl, isNonB_str, isNonB_tup, isNonB_lst, isNonB_obj, ok_isN, ok_max, ok_min, isi_int_int, isi_int_bl, isi_int_non, isi_int_str, isi_int_tup, isi_int_lst, isi_bool_int, isi_bool_bl, isi_str_str, isi_str_int, isi_str_bl, isi_str_non, isi_str_tup, isi_str_lst, isi_tuple_tup, isi_tuple_int, isi_tuple_bl, isi_tuple_non, isi_tuple_str, isi_tuple_lst,
  ok_conM, ok_fputM, fputK_new, conV_new, ok_makeM, ok_methM,
  List.map_cons, List.map_nil, List.replicate_succ, List.replicate_zero, List.cons_append, List.nil_append, List.append_nil, List.getElem?_cons_zero, List.getElem?_cons_succ, List.set_cons_zero, List.set_cons_succ, Nat.reduceSub, decide_eq_true_eq, if_true, if_false, Bool.false_eq_true, Bool.not_true, Bool.not_false, beq_self_eq_true, Bool.true_eq_false, bne_self_eq_false, Bool.bne_true, Bool.bne_false, Nat.zero_add, Nat.reduceAdd, true_and, and_true, reduceCtorEq, List.length_cons, List.length_nil, f_name, f_ends, f_rate, f_fee, f_least, ix20, ix21])
section
variable {n : Nat} {o : OfV} {st : List MO} {s : S} {E : PV → S → Prop} {Q : PV → S → Prop}
theorem eq_p_source : m_Office_source n [o.pv] st = .ok (.str o.src) st := by
  refine OkFx.eq ?_
  unfold m_Office_source
  refine okF_fn rfl ?_
  unfold b_Office_source
  walk_at "st"
  exact ⟨_, rfl, rfl⟩
theorem eq_p_goal : m_Office_goal n [o.pv] st = .ok (.str o.dst) st := by
  refine OkFx.eq ?_
  unfold m_Office_goal
  refine okF_fn rfl ?_
  unfold b_Office_goal
  walk_at "st"
  exact ⟨_, rfl, rfl⟩
theorem prp {tab : List (Str × Fn)} {m0 m1 : Fn} {r : PV} (h0 : tab.lookup (Str.ofString "Office") = some m0) (h1 : tab.lookup (Str.ofString "CappedOffice") = some m1) (h : o.most = none → ∀ st, m0 n [o.pv] st = .ok r st) (h' : ∀ k, o.most = some k → ∀ st, m1 n [o.pv] st = .ok r st) : Okx E (propM tab n o.pv) s Q ↔ Q r s := by
  cases hm : o.most with
  | none =>
    have h := h hm s.sto
    rw [OfV.pv_none hm] at h ⊢
    exact propM_obj h0 h
  | some k =>
    have h := h' k hm s.sto
    rw [OfV.pv_some hm] at h ⊢
    exact propM_obj h1 h
theorem p_source : Okx E (propM tp_source n o.pv) s Q ↔ Q (.str o.src) s := prp rfl rfl (fun _ _ => eq_p_source) (fun _ _ _ => eq_p_source)
theorem p_goal : Okx E (propM tp_goal n o.pv) s Q ↔ Q (.str o.dst) s := prp rfl rfl (fun _ _ => eq_p_goal) (fun _ _ _ => eq_p_goal)
theorem iso_off {tab : List (Str × Bool)} {b : Bool} (h0 : tab.lookup (Str.ofString "Office") = some b) (h1 : tab.lookup (Str.ofString "CappedOffice") = some b) : Okx E (isoM tab o.pv) s Q ↔ Q (.bl b) s := by
  unfold Okx isoM
  cases hm : o.most with
  | none => rw [OfV.pv_none hm]; simp only [insOf_obj, h0]
  | some k => rw [OfV.pv_some hm]; simp only [insOf_obj, h1]
theorem iso_offR : Okx E (isoM [("Office", true), ("CappedOffice", true), ("Route", false)] o.pv) s Q ↔ Q (.bl true) s := iso_off rfl rfl
end
/-- where a route through these offices ends -/
def endO : Str → List OfV → Str
  | c, [] => c
  | _, o :: r => endO o.dst r
/-- each office begins where the one before ends -/
def Jn : Str → List OfV → Prop
  | _, [] => True
  | c, o :: r => o.src = c ∧ Jn o.dst r
theorem Jn.app : ∀ {c : Str} {os ps : List OfV}, Jn c (os ++ ps) ↔ Jn c os ∧ Jn (endO c os) ps
  | c, [], ps => by simp [Jn, endO]
  | c, o :: os, ps => by
    simp only [List.cons_append, Jn, endO]
    rw [Jn.app (c := o.dst) (os := os) (ps := ps), and_assoc]
theorem endO_app : ∀ {c : Str} {os ps : List OfV}, endO c (os ++ ps) = endO (endO c os) ps
  | c, [], ps => rfl
  | c, o :: os, ps => by
    simp only [List.cons_append, endO]
    exact endO_app
theorem Jn.take {c : Str} {os : List OfV} (h : Jn c os) (k : Nat) : Jn c (os.take k) := by
  have : Jn c (os.take k ++ os.drop k) := by rw [List.take_append_drop]; exact h
  exact (Jn.app.mp this).1
theorem Jn.get {c : Str} {os : List OfV} {k : Nat} {o : OfV} (h : Jn c os) (e : os[k]? = some o) : o.src = endO c (os.take k) ∧ endO c (os.take (k + 1)) = o.dst := by
  have hk := (List.getElem?_eq_some_iff.mp e).1
  have e2 : os.take (k + 1) = os.take k ++ [o] := by rw [List.take_add_one, e]; rfl
  have h2 : Jn c (os.take k ++ [o]) := by rw [← e2]; exact h.take _
  rw [e2, endO_app]
  exact ⟨(Jn.app.mp h2).2.1, rfl⟩
abbrev KSR : List Str := ["own_start", "own_end", "own_offices"]
abbrev vsR (c : Str) (os : List OfV) : List PV := [.str c, .str (endO c os), .tup (os.map OfV.pv)]
/-- a route -/
def Rt (c : Str) (os : List OfV) : PV := .obj "Route" KSR (vsR c os)
structure RtOk (c : Str) (os : List OfV) : Prop where
  nm : Nm c
  wf : ∀ o ∈ os, o.Wf
  jn : Jn c os
theorem rk1 {v : PV} : putKV "own_start" v [] [] = ((["own_start"] : List Str), ([v] : List PV)) := rfl
theorem rk2 {a v : PV} : putKV "own_end" v ["own_start"] [a] = ((["own_start", "own_end"] : List Str), ([a, v] : List PV)) := putKV_new (by decide +kernel) rfl
theorem rk3 {a b v : PV} : putKV "own_offices" v ["own_start", "own_end"] [a, b] = (KSR, ([a, b, v] : List PV)) := putKV_new (by decide +kernel) rfl
local macro_rules | `(tactic| walk_at "st") => `(tactic| try simp only [ok_ret, ok_bnd, ok_bin, ok_var, varK_val, varK_own, pv_val, pv_own, ok_asB, asBK_bl, ok_andT, ok_orT, ok_notT, ok_iteT, ok_andV, ok_notV, blK_bl,
  ok_argN, ok_argC, ok_fits, ok_tupM, ok_lstM, ok_parN, ok_parS, intK_int, ok_slM, ok_joinM, strK_str, ok_itemsM, ok_rngM, ok_seqM, seqK_nx, seqK_rt, seqK_bk, seqK_ct, ok_ifM, ok_retM, ok_dropM, ok_skipM, ok_asgM, ok_asgO, ok_par2, ok_par2VO, ok_par3,
  ok_callM, rtK_rt, rtK_nx, ok_loopM, ok_lcM, ok_dispM, ok_prsN, ok_prsC, ok_hget0, getK_some, ok_hputM, putK0, pc, pb, pl, ppb, ppl, plen, ok_add, ok_addS, ok_addT, ok_addL, ok_sub, ok_mul, ok_ixL, ok_ixT, ok_unp, unpK_tup, ok_set0, ok_setC, ok_app, flK_nx, flK_ct, flK_bk, flK_rt, sl_L, sl_T, sl_S, it_L, it_T, wip, ok_div, ok_mod, ok_pow, ok_rep, ok_ord, ok_fInt, ok_fAbs, ok_lenL, ok_lenT, ok_lenS, ok_fListL, ok_fListT, ok_fTupleL, ok_fTupleT, ok_eqI, ok_eqB, ok_eqS,
  okF_ok, okF_exc, ok_runM, ok_appA, ok_len1, ok_argS, starK_tup, starK_lst, ok_chain, isNonB_non, isNonB_int, isNonB_bl, isNonB_str, isNonB_tup, isNonB_lst, isNonB_obj, ok_isN, ok_max, ok_min, isi_int_int, isi_int_bl, isi_int_non, isi_int_str, isi_int_tup, isi_int_lst, isi_bool_int, isi_bool_bl, isi_str_str, isi_str_int, isi_str_bl, isi_str_non, isi_str_tup, isi_str_lst, isi_tuple_tup, isi_tuple_int, isi_tuple_bl, isi_tuple_non, isi_tuple_str, isi_tuple_lst,
  ok_conM, ok_fputM, fputK_new, conV_new, ok_makeM, ok_methM,
  List.map_cons, List.map_nil, List.replicate_succ, List.replicate_zero, List.cons_append, List.nil_append, List.append_nil, List.getElem?_cons_zero, List.getElem?_cons_succ, List.set_cons_zero, List.set_cons_succ, Nat.reduceSub, decide_eq_true_eq, if_true, if_false, Bool.false_eq_true, Bool.not_true, Bool.not_false, beq_self_eq_true, Bool.true_eq_false, bne_self_eq_false, Bool.bne_true, Bool.bne_false, Nat.zero_add, Nat.reduceAdd, true_and, and_true, reduceCtorEq, List.length_cons, List.length_nil, f_name, f_ends, f_rate, f_fee, f_least, ix20, ix21, p_source, p_goal, iso_offR, ok_loopU, ok_enumM, en_L, en_T])
local macro_rules | `(tactic| walk_at "sx") => `(tactic| try simp only [ok_ret, ok_bnd, ok_bin, ok_var, varK_val, varK_own, pv_val, pv_own, ok_asB, asBK_bl, ok_andT, ok_orT, ok_notT, ok_iteT, ok_andV, ok_notV, blK_bl,
  ok_argN, ok_argC, ok_fits, ok_tupM, ok_lstM, ok_parN, ok_parS, intK_int, ok_slM, ok_joinM, strK_str, ok_itemsM, ok_rngM, seqK_nx, seqK_rt, seqK_bk, seqK_ct, ok_ifM, ok_retM, ok_dropM, ok_skipM, ok_asgM, ok_asgO, ok_par2, ok_par2VO, ok_par3,
  ok_callM, rtK_rt, rtK_nx, ok_loopM, ok_lcM, ok_dispM, ok_prsN, ok_prsC, ok_hget0, getK_some, ok_hputM, putK0, pc, pb, pl, ppb, ppl, plen, ok_add, ok_addS, ok_addT, ok_addL, ok_sub, ok_mul, ok_ixL, ok_ixT, ok_unp, unpK_tup, ok_set0, ok_setC, ok_app, flK_nx, flK_ct, flK_bk, flK_rt, sl_L, sl_T, sl_S, it_L, it_T, wip, ok_div, ok_mod, ok_pow, ok_rep, ok_ord, ok_fInt, ok_fAbs, ok_lenL, ok_lenT, ok_lenS, ok_fListL, ok_fListT, ok_fTupleL, ok_fTupleT, ok_eqI, ok_eqB, ok_eqS,
  okF_ok, okF_exc, ok_runM, ok_appA, ok_len1, ok_argS, starK_tup, starK_lst, ok_chain, isNonB_non, isNonB_int, isNonB_bl, isNonB_str, isNonB_tup, isNonB_lst, isNonB_obj, ok_isN, ok_max, ok_min, isi_int_int, isi_int_bl, isi_int_non, isi_int_str, isi_int_tup, isi_int_lst, isi_bool_int, isi_bool_bl, isi_str_str, isi_str_int, isi_str_bl, isi_str_non, isi_str_tup, isi_str_lst, isi_tuple_tup, isi_tuple_int, isi_tuple_bl, isi_tuple_non, isi_tuple_str, isi_tuple_lst,
  ok_conM, ok_fputM, fputK_new, conV_new, ok_makeM, ok_methM,
  List.map_cons, List.map_nil, List.replicate_succ, List.replicate_zero, List.cons_append, List.nil_append, List.append_nil, List.getElem?_cons_zero, List.getElem?_cons_succ, List.set_cons_zero, List.set_cons_succ, Nat.reduceSub, decide_eq_true_eq, if_true, if_false, Bool.false_eq_true, Bool.not_true, Bool.not_false, beq_self_eq_true, Bool.true_eq_false, bne_self_eq_false, Bool.bne_true, Bool.bne_false, Nat.zero_add, Nat.reduceAdd, true_and, and_true, reduceCtorEq, List.length_cons, List.length_nil, f_name, f_ends, f_rate, f_fee, f_least, ix20, ix21, p_source, p_goal, iso_offR, ok_loopU, ok_enumM, en_L, en_T])
set_option maxHeartbeats 4000000 in
theorem eq_Route_init {n : Nat} {c : Str} {os : List OfV} {st : List MO} (h : RtOk c os) (hl : os.length ≤ 1000) : m_Route_init n [.hnd st.length, .str c, .tup (os.map OfV.pv)] (mkS st "Route" [] []) = .ok .non (mkS st "Route" KSR (vsR c os)) := by
  have hz : sizeLine = 16777216 := sizeLine_eq
  refine OkFx.eq ?_
  unfold m_Route_init
  refine okF_fn rfl ?_
  unfold b_Route_init
  refine ok_seq ?_
  walk_at "sx"
  rw [eq_need_name h.nm]
  walk_at "sx"
  refine ok_seq ?_
  walk_at "sx"
  refine ok_for (fun j s => ∃ e3, s = ⟨[some (SV.val (PV.hnd st.length)), some (SV.val (PV.str c)), some (SV.val (PV.tup (os.map OfV.pv))), e3, none, none], mkS st "Route" [] []⟩) ⟨none, rfl⟩ ?_ ?_
  · rintro j x s hx ⟨e3, rfl⟩
    rw [List.getElem?_map] at hx
    obtain ⟨o, ho, rfl⟩ := Option.map_eq_some_iff.mp hx
    walk_at "st"
    exact ⟨_, rfl⟩
  rintro s ⟨e3, rfl⟩
  walk_at "sx"
  refine ok_seq ?_
  walk_at "sx"
  refine ok_seq ?_
  walk_at "sx"
  refine ok_for2 (fun j s => j ≤ os.length ∧ ∃ e3 e5, s = ⟨[some (SV.val (PV.hnd st.length)), some (SV.val (PV.str c)), some (SV.val (PV.tup (os.map OfV.pv))), e3, some (SV.val (PV.str (endO c (os.take j)))), e5], mkS st "Route" [] []⟩) ⟨Nat.zero_le _, _, none, by rw [List.take_zero]; rfl⟩ ?_ ?_
  · rintro j x s hx ⟨hj, e3, e5, rfl⟩
    have hj2 : j < os.length := by
      have := (List.getElem?_eq_some_iff.mp hx).1
      rw [enumL_length, List.length_map] at this
      exact this
    have ho : os[j]? = some os[j] := List.getElem?_eq_getElem hj2
    have hx2 := enumL_get (os.map OfV.pv) 0 j (os[j]).pv (by rw [List.getElem?_map, ho]; rfl)
    rw [hx2] at hx
    cases hx
    obtain ⟨g1, g2⟩ := h.jn.get ho
    refine ⟨_, _, rfl, ?_⟩
    walk_at "st"
    rw [g1]
    simp only [beq_self_eq_true, Bool.not_true, if_false, Bool.false_eq_true]
    walk_at "st"
    refine ⟨hj2, _, _, by rw [g2]⟩
  rintro s ⟨_, e3, e5, rfl⟩
  rw [enumL_length, List.length_map, List.take_length]
  walk_at "st"
  refine ⟨⟨by decide +kernel, rfl⟩, ?_⟩
  rw [if_neg (by simp; omega)]
  walk_at "st"
  simp only [rk1, rk2, rk3, List.length_cons, List.length_nil]
  refine ⟨⟨by decide +kernel, by decide⟩, ?_⟩
  walk_at "st"
  try simp only [rk1, rk2, rk3, List.length_cons, List.length_nil]
  trivial
end Lw
/-! Rg: routes: fields, + of an office, properties (shared by the laws with routes). -/
namespace Lw
open PySem Dn
open L2 hiding bin
section
variable {n : Nat} {c : Str} {os : List OfV} {st : List MO} {s : S} {E : PV → S → Prop} {Q : PV → S → Prop}
theorem g_start : Okx E (fldM ["Route"] "own_start" (Rt c os)) s Q ↔ Q (.str c) s := ok_fld (by unfold fldV Rt; rw [insOf_obj]; exact (if_pos (by decide +kernel)).trans rfl)
theorem g_end : Okx E (fldM ["Route"] "own_end" (Rt c os)) s Q ↔ Q (.str (endO c os)) s := ok_fld (by unfold fldV Rt; rw [insOf_obj]; exact (if_pos (by decide +kernel)).trans rfl)
theorem g_offs : Okx E (fldM ["Route"] "own_offices" (Rt c os)) s Q ↔ Q (.tup (os.map OfV.pv)) s := ok_fld (by unfold fldV Rt; rw [insOf_obj]; exact (if_pos (by decide +kernel)).trans rfl)
theorem ok_mkR {x : List PV} {env : Dn.Env} (h : RtOk c os) (hl : os.length ≤ 1000) (hx : x = [.str c, .tup (os.map OfV.pv)]) : Okx E (makeD "Route" m_Route_init n x) ⟨env, st⟩ Q ↔ Q (Rt c os) ⟨env, st ++ [.gone, .gone]⟩ := by
  subst hx
  exact ok_made (eq_Route_init h hl)
theorem ok_mkR' {x : List PV} {s : S} (h : RtOk c os) (hl : os.length ≤ 1000) (hx : x = [.str c, .tup (os.map OfV.pv)]) : Okx E (makeD "Route" m_Route_init n x) s Q ↔ Q (Rt c os) ⟨s.env, s.sto ++ [.gone, .gone]⟩ := ok_mkR h hl hx
end
local macro_rules | `(tactic| walk_at "st") => `(tactic| try simp only [ok_ret, ok_bnd, ok_bin, ok_var, varK_val, varK_own, pv_val, pv_own, ok_asB, asBK_bl, ok_andT, ok_orT, ok_notT, ok_iteT, ok_andV, ok_notV, blK_bl,
  ok_argN, ok_argC, ok_fits, ok_tupM, ok_lstM, ok_parN, ok_parS, intK_int, ok_slM, ok_joinM, strK_str, ok_itemsM, ok_rngM, ok_seqM, seqK_nx, seqK_rt, seqK_bk, seqK_ct, ok_ifM, ok_retM, ok_dropM, ok_skipM, ok_asgM, ok_asgO, ok_par2, ok_par2VO, ok_par3,
  ok_callM, rtK_rt, rtK_nx, ok_loopM, ok_lcM, ok_dispM, ok_prsN, ok_prsC, ok_hget0, getK_some, ok_hputM, putK0, pc, pb, pl, ppb, ppl, plen, ok_add, ok_addS, ok_addT, ok_addL, ok_sub, ok_mul, ok_ixL, ok_ixT, ok_unp, unpK_tup, ok_set0, ok_setC, ok_app, flK_nx, flK_ct, flK_bk, flK_rt, sl_L, sl_T, sl_S, it_L, it_T, wip, ok_div, ok_mod, ok_pow, ok_rep, ok_ord, ok_fInt, ok_fAbs, ok_lenL, ok_lenT, ok_lenS, ok_fListL, ok_fListT, ok_fTupleL, ok_fTupleT, ok_eqI, ok_eqB, ok_eqS,
  okF_ok, okF_exc, ok_runM, ok_appA, ok_len1, ok_argS, starK_tup, starK_lst, ok_chain, isNonB_non, isNonB_int, isNonB_bl, isNonB_str, isNonB_tup, isNonB_lst, isNonB_obj, ok_isN, ok_max, ok_min, isi_int_int, isi_int_bl, isi_int_non, isi_int_str, isi_int_tup, isi_int_lst, isi_bool_int, isi_bool_bl, isi_str_str, isi_str_int, isi_str_bl, isi_str_non, isi_str_tup, isi_str_lst, isi_tuple_tup, isi_tuple_int, isi_tuple_bl, isi_tuple_non, isi_tuple_str, isi_tuple_lst,
  ok_conM, ok_fputM, fputK_new, conV_new, ok_makeM, ok_methM,
  List.map_cons, List.map_nil, List.replicate_succ, List.replicate_zero, List.cons_append, List.nil_append, List.append_nil, List.getElem?_cons_zero, List.getElem?_cons_succ, List.set_cons_zero, List.set_cons_succ, Nat.reduceSub, decide_eq_true_eq, if_true, if_false, Bool.false_eq_true, Bool.not_true, Bool.not_false, beq_self_eq_true, Bool.true_eq_false, bne_self_eq_false, Bool.bne_true, Bool.bne_false, Nat.zero_add, Nat.reduceAdd, true_and, and_true, reduceCtorEq, List.length_cons, List.length_nil, f_name, f_ends, f_rate, f_fee, f_least, p_source, p_goal, iso_offR, ok_loopU, ok_enumM, en_L, en_T, g_start, g_end, g_offs, ok_starA])
set_option maxHeartbeats 4000000 in
theorem eq_Route_add {n : Nat} {c : Str} {os : List OfV} {o : OfV} {st : List MO} (h : RtOk c (os ++ [o])) (hl : os.length < 1000) : m_Route_add n [Rt c os, o.pv] st = .ok (Rt c (os ++ [o])) (st ++ [.gone, .gone]) := by
  have hz : sizeLine = 16777216 := sizeLine_eq
  have hj := (Jn.app.mp h.jn).2
  refine OkFx.eq ?_
  unfold m_Route_add
  refine okF_fn rfl ?_
  unfold b_Route_add
  walk_at "st"
  rw [hj.1]
  refine ⟨by omega, ?_⟩
  simp only [beq_self_eq_true, Bool.not_true, if_false, Bool.false_eq_true]
  walk_at "st"
  refine ⟨⟨by simp, by simp; omega⟩, ?_⟩
  rw [ok_mkR' (c := c) (os := os ++ [o]) h (by simp; omega) (by simp)]
  exact ⟨rfl, rfl⟩
/-! ### rows of the laws from k26 on -/
def OfV.row8 (o : OfV) : PV := .tup [.str o.nm, .str o.src, .str o.dst, .int o.p, .int o.q, .int o.fee, .int o.least, o.mostV]
theorem ix_row8 {o : OfV} {k : Int} {v : PV} {s : S} {E : PV → S → Prop} {Q : PV → S → Prop} (h : L2.atI [.str o.nm, .str o.src, .str o.dst, .int o.p, .int o.q, .int o.fee, .int o.least, o.mostV] k = some v) : Okx E (lft (ixP o.row8 (.int k))) s Q ↔ Q v s := by
  rw [ok_lft]
  show (∃ a, L2.atI _ k = some a ∧ Q a s) ↔ _
  rw [h]
  simp
section
variable {o : OfV} {s : S} {E : PV → S → Prop} {Q : PV → S → Prop}
theorem r80 : Okx E (lft (ixP o.row8 (.int 0))) s Q ↔ Q (.str o.nm) s := ix_row8 rfl
theorem r81 : Okx E (lft (ixP o.row8 (.int 1))) s Q ↔ Q (.str o.src) s := ix_row8 rfl
theorem r82 : Okx E (lft (ixP o.row8 (.int 2))) s Q ↔ Q (.str o.dst) s := ix_row8 rfl
theorem r83 : Okx E (lft (ixP o.row8 (.int 3))) s Q ↔ Q (.int o.p) s := ix_row8 rfl
theorem r84 : Okx E (lft (ixP o.row8 (.int 4))) s Q ↔ Q (.int o.q) s := ix_row8 rfl
theorem r85 : Okx E (lft (ixP o.row8 (.int 5))) s Q ↔ Q (.int o.fee) s := ix_row8 rfl
theorem r86 : Okx E (lft (ixP o.row8 (.int 6))) s Q ↔ Q (.int o.least) s := ix_row8 rfl
theorem r87 : Okx E (lft (ixP o.row8 (.int 7))) s Q ↔ Q o.mostV s := ix_row8 rfl
end
local macro_rules | `(tactic| walk_at "st") => `(tactic| try simp only [ok_ret, ok_bnd, ok_bin, ok_var, varK_val, varK_own, pv_val, pv_own, ok_asB, asBK_bl, ok_andT, ok_orT, ok_notT, ok_iteT, ok_andV, ok_notV, blK_bl,
  ok_argN, ok_argC, ok_fits, ok_tupM, ok_lstM, ok_parN, ok_parS, intK_int, ok_slM, ok_joinM, strK_str, ok_itemsM, ok_rngM, ok_seqM, seqK_nx, seqK_rt, seqK_bk, seqK_ct, ok_ifM, ok_retM, ok_dropM, ok_skipM, ok_asgM, ok_asgO, ok_par2, ok_par2VO, ok_par3,
  ok_callM, rtK_rt, rtK_nx, ok_loopM, ok_lcM, ok_dispM, ok_prsN, ok_prsC, ok_hget0, getK_some, ok_hputM, putK0, pc, pb, pl, ppb, ppl, plen, ok_add, ok_addS, ok_addT, ok_addL, ok_sub, ok_mul, ok_ixL, ok_ixT, ok_unp, unpK_tup, ok_set0, ok_setC, ok_app, flK_nx, flK_ct, flK_bk, flK_rt, sl_L, sl_T, sl_S, it_L, it_T, wip, ok_div, ok_mod, ok_pow, ok_rep, ok_ord, ok_fInt, ok_fAbs, ok_lenL, ok_lenT, ok_lenS, ok_fListL, ok_fListT, ok_fTupleL, ok_fTupleT, ok_eqI, ok_eqB, ok_eqS,
  okF_ok, okF_exc, ok_runM, ok_appA, ok_len1, ok_argS, starK_tup, starK_lst, ok_chain, isNonB_non, isNonB_int, isNonB_bl, isNonB_str, isNonB_tup, isNonB_lst, isNonB_obj, ok_isN, ok_max, ok_min, isi_int_int, isi_int_bl, isi_int_non, isi_int_str, isi_int_tup, isi_int_lst, isi_bool_int, isi_bool_bl, isi_str_str, isi_str_int, isi_str_bl, isi_str_non, isi_str_tup, isi_str_lst, isi_tuple_tup, isi_tuple_int, isi_tuple_bl, isi_tuple_non, isi_tuple_str, isi_tuple_lst,
  ok_conM, ok_fputM, fputK_new, conV_new, ok_makeM, ok_methM,
  List.map_cons, List.map_nil, List.replicate_succ, List.replicate_zero, List.cons_append, List.nil_append, List.append_nil, List.getElem?_cons_zero, List.getElem?_cons_succ, List.set_cons_zero, List.set_cons_succ, Nat.reduceSub, decide_eq_true_eq, if_true, if_false, Bool.false_eq_true, Bool.not_true, Bool.not_false, beq_self_eq_true, Bool.true_eq_false, bne_self_eq_false, Bool.bne_true, Bool.bne_false, Nat.zero_add, Nat.reduceAdd, true_and, and_true, reduceCtorEq, List.length_cons, List.length_nil, r80, r81, r82, r83, r84, r85, r86, r87])
set_option maxHeartbeats 4000000 in
theorem eq_one {n : Nat} {o : OfV} {st : List MO} (h : o.Wf) : m_law_one n [o.row8] st = .ok o.pv (st ++ [.gone, .gone]) := by
  refine OkFx.eq ?_
  unfold m_law_one
  refine okF_fn rfl ?_
  unfold b_law_one
  walk_at "st"
  cases hm : o.most with
  | none =>
    rw [mostV_none hm, OfV.pv_none hm]
    walk_at "st"
    rw [ok_made (eq_Office_init (.inl rfl) h)]
    trivial
  | some m =>
    rw [mostV_some hm, OfV.pv_some hm]
    walk_at "st"
    rw [ok_made (eq_Capped_init h hm)]
    trivial
local macro_rules | `(tactic| walk_at "st") => `(tactic| try simp only [ok_ret, ok_bnd, ok_bin, ok_var, varK_val, varK_own, pv_val, pv_own, ok_asB, asBK_bl, ok_andT, ok_orT, ok_notT, ok_iteT, ok_andV, ok_notV, blK_bl,
  ok_argN, ok_argC, ok_fits, ok_tupM, ok_lstM, ok_parN, ok_parS, intK_int, ok_slM, ok_joinM, strK_str, ok_itemsM, ok_rngM, ok_seqM, seqK_nx, seqK_rt, seqK_bk, seqK_ct, ok_ifM, ok_retM, ok_dropM, ok_skipM, ok_asgM, ok_asgO, ok_par2, ok_par2VO, ok_par3,
  ok_callM, rtK_rt, rtK_nx, ok_loopM, ok_lcM, ok_dispM, ok_prsN, ok_prsC, ok_hget0, getK_some, ok_hputM, putK0, pc, pb, pl, ppb, ppl, plen, ok_add, ok_addS, ok_addT, ok_addL, ok_sub, ok_mul, ok_ixL, ok_ixT, ok_unp, unpK_tup, ok_set0, ok_setC, ok_app, flK_nx, flK_ct, flK_bk, flK_rt, sl_L, sl_T, sl_S, it_L, it_T, wip, ok_div, ok_mod, ok_pow, ok_rep, ok_ord, ok_fInt, ok_fAbs, ok_lenL, ok_lenT, ok_lenS, ok_fListL, ok_fListT, ok_fTupleL, ok_fTupleT, ok_eqI, ok_eqB, ok_eqS,
  okF_ok, okF_exc, ok_runM, ok_appA, ok_len1, ok_argS, starK_tup, starK_lst, ok_chain, isNonB_non, isNonB_int, isNonB_bl, isNonB_str, isNonB_tup, isNonB_lst, isNonB_obj, ok_isN, ok_max, ok_min, isi_int_int, isi_int_bl, isi_int_non, isi_int_str, isi_int_tup, isi_int_lst, isi_bool_int, isi_bool_bl, isi_str_str, isi_str_int, isi_str_bl, isi_str_non, isi_str_tup, isi_str_lst, isi_tuple_tup, isi_tuple_int, isi_tuple_bl, isi_tuple_non, isi_tuple_str, isi_tuple_lst,
  ok_conM, ok_fputM, fputK_new, conV_new, ok_makeM, ok_methM,
  List.map_cons, List.map_nil, List.replicate_succ, List.replicate_zero, List.cons_append, List.nil_append, List.append_nil, List.getElem?_cons_zero, List.getElem?_cons_succ, List.set_cons_zero, List.set_cons_succ, Nat.reduceSub, decide_eq_true_eq, if_true, if_false, Bool.false_eq_true, Bool.not_true, Bool.not_false, beq_self_eq_true, Bool.true_eq_false, bne_self_eq_false, Bool.bne_true, Bool.bne_false, Nat.zero_add, Nat.reduceAdd, true_and, and_true, reduceCtorEq, List.length_cons, List.length_nil, r80, r81, r82, r83, r84, r85, r86, r87, ok_starA])
local macro_rules | `(tactic| walk_at "sx") => `(tactic| try simp only [ok_ret, ok_bnd, ok_bin, ok_var, varK_val, varK_own, pv_val, pv_own, ok_asB, asBK_bl, ok_andT, ok_orT, ok_notT, ok_iteT, ok_andV, ok_notV, blK_bl,
  ok_argN, ok_argC, ok_fits, ok_tupM, ok_lstM, ok_parN, ok_parS, intK_int, ok_slM, ok_joinM, strK_str, ok_itemsM, ok_rngM, seqK_nx, seqK_rt, seqK_bk, seqK_ct, ok_ifM, ok_retM, ok_dropM, ok_skipM, ok_asgM, ok_asgO, ok_par2, ok_par2VO, ok_par3,
  ok_callM, rtK_rt, rtK_nx, ok_loopM, ok_lcM, ok_dispM, ok_prsN, ok_prsC, ok_hget0, getK_some, ok_hputM, putK0, pc, pb, pl, ppb, ppl, plen, ok_add, ok_addS, ok_addT, ok_addL, ok_sub, ok_mul, ok_ixL, ok_ixT, ok_unp, unpK_tup, ok_set0, ok_setC, ok_app, flK_nx, flK_ct, flK_bk, flK_rt, sl_L, sl_T, sl_S, it_L, it_T, wip, ok_div, ok_mod, ok_pow, ok_rep, ok_ord, ok_fInt, ok_fAbs, ok_lenL, ok_lenT, ok_lenS, ok_fListL, ok_fListT, ok_fTupleL, ok_fTupleT, ok_eqI, ok_eqB, ok_eqS,
  okF_ok, okF_exc, ok_runM, ok_appA, ok_len1, ok_argS, starK_tup, starK_lst, ok_chain, isNonB_non, isNonB_int, isNonB_bl, isNonB_str, isNonB_tup, isNonB_lst, isNonB_obj, ok_isN, ok_max, ok_min, isi_int_int, isi_int_bl, isi_int_non, isi_int_str, isi_int_tup, isi_int_lst, isi_bool_int, isi_bool_bl, isi_str_str, isi_str_int, isi_str_bl, isi_str_non, isi_str_tup, isi_str_lst, isi_tuple_tup, isi_tuple_int, isi_tuple_bl, isi_tuple_non, isi_tuple_str, isi_tuple_lst,
  ok_conM, ok_fputM, fputK_new, conV_new, ok_makeM, ok_methM,
  List.map_cons, List.map_nil, List.replicate_succ, List.replicate_zero, List.cons_append, List.nil_append, List.append_nil, List.getElem?_cons_zero, List.getElem?_cons_succ, List.set_cons_zero, List.set_cons_succ, Nat.reduceSub, decide_eq_true_eq, if_true, if_false, Bool.false_eq_true, Bool.not_true, Bool.not_false, beq_self_eq_true, Bool.true_eq_false, bne_self_eq_false, Bool.bne_true, Bool.bne_false, Nat.zero_add, Nat.reduceAdd, true_and, and_true, reduceCtorEq, List.length_cons, List.length_nil, r80, r81, r82, r83, r84, r85, r86, r87, ok_starA])
theorem add_R {tab : List (Str × Fn)} {bl : List String} {n : Nat} {old : PV → PV → M PV} {c : Str} {os : List OfV} {o : OfV} {s : S} {E : PV → S → Prop} {Q : PV → S → Prop} (ht : tab.lookup (Str.ofString "Route") = some m_Route_add) (h : RtOk c (os ++ [o])) (hl : os.length < 1000) :
    Okx E (bopO tab ["Office", "CappedOffice"] bl n old (Rt c os) o.pv) s Q ↔ Q (Rt c (os ++ [o])) ⟨s.env, s.sto ++ [.gone, .gone]⟩ := by
  have key : ∀ {c2 : Str} {ks2 : List Str} {vs2 : List PV}, o.pv = .obj c2 ks2 vs2 → c2 ∈ (["Office", "CappedOffice"] : List Str) → (Okx E (bopO tab ["Office", "CappedOffice"] bl n old (Rt c os) o.pv) s Q ↔ Q (Rt c (os ++ [o])) ⟨s.env, s.sto ++ [.gone, .gone]⟩) := by
    intro c2 ks2 vs2 e hc
    have ha := eq_Route_add (n := n) (st := s.sto) h hl
    rw [e] at ha ⊢
    unfold Rt at ha ⊢
    rw [ok_bop ht (.inr hc), ok_runM, ha, okF_ok]
  cases hm : o.most with
  | none => exact key (OfV.pv_none hm) (by decide +kernel)
  | some m => exact key (OfV.pv_some hm) (by decide +kernel)
set_option maxHeartbeats 4000000 in
theorem sp_joined {n : Nat} {c : Str} {os : List OfV} {st : List MO} {Q : PV → List MO → Prop} (h : RtOk c os) (hl : os.length ≤ 1000) (hq : ∀ k, Q (Rt c os) (st ++ List.replicate k .gone)) : OkF (m_law_joined n [.str c, .lst (os.map OfV.row8)] st) Q := by
  have hz : sizeLine = 16777216 := sizeLine_eq
  have sub : ∀ k, RtOk c (os.take k) := fun k => ⟨h.nm, fun o ho => h.wf o (List.mem_of_mem_take ho), h.jn.take k⟩
  unfold m_law_joined
  refine okF_fn rfl ?_
  unfold b_law_joined
  refine ok_seq ?_
  walk_at "sx"
  refine ⟨⟨by simp, by simp⟩, ?_⟩
  rw [ok_mkR' (c := c) (os := []) (sub 0) (by simp) (by simp)]
  walk_at "sx"
  refine ok_seq ?_
  walk_at "sx"
  refine ok_for (fun j s => j ≤ os.length ∧ ∃ e3 k, s = ⟨[some (SV.val (.str c)), some (SV.val (.lst (os.map OfV.row8))), some (SV.val (Rt c (os.take j))), e3], st ++ List.replicate k .gone⟩) ⟨Nat.zero_le _, none, 2, by simp⟩ ?_ ?_
  · rintro j x s hx ⟨hj, e3, k, rfl⟩
    rw [List.getElem?_map] at hx
    obtain ⟨o, ho, rfl⟩ := Option.map_eq_some_iff.mp hx
    have hjl := (List.getElem?_eq_some_iff.mp ho).1
    have e1 : os.take (j + 1) = os.take j ++ [o] := by rw [List.take_add_one, ho]; rfl
    have hr := sub (j + 1)
    rw [e1] at hr
    walk_at "st"
    rw [eq_one (h.wf o (List.mem_of_getElem? ho))]
    walk_at "st"
    rw [add_R rfl hr (by rw [List.length_take]; omega)]
    walk_at "st"
    refine ⟨by omega, some (SV.val o.row8), k + 4, ?_⟩
    rw [e1]
    simp [List.append_assoc, List.replicate_succ']
  · rintro s ⟨hj, e3, k, rfl⟩
    rw [List.length_map, List.take_length]
    walk_at "st"
    exact hq k
end Lw
/-! Cp: routes compared, as plain numbers. -/
namespace Lw
open PySem Dn
open L2 hiding bin
def gP : List OfV → Int
  | [] => 1
  | o :: r => o.p * gP r
def gQ : List OfV → Int
  | [] => 1
  | o :: r => o.q * gQ r
def reg : List OfV → Int
  | [] => 0
  | o :: r => max o.least (((reg r + o.fee) * o.q + o.p - 1) / o.p)
def stp (o : OfV) (a : Int) : Option Int := if a < o.least then none else some (max 0 (a * o.p / o.q - o.fee))
def go : List OfV → Int → Option Int
  | [], a => some a
  | o :: r, a => (stp o a).bind (go r)
theorem go_snoc : ∀ {os : List OfV} {o : OfV} {a : Int}, go (os ++ [o]) a = (go os a).bind (stp o)
  | [], o, a => by
    simp only [List.nil_append, go, Option.bind_some]
    cases stp o a <;> rfl
  | x :: os, o, a => by
    simp only [List.cons_append, go]
    cases stp x a with
    | none => rfl
    | some b => exact go_snoc
theorem gP_pos : ∀ {os : List OfV}, (∀ o ∈ os, o.Wf) → 1 ≤ gP os ∧ 1 ≤ gQ os
  | [], _ => ⟨Int.le_refl _, Int.le_refl _⟩
  | o :: os, h => by
    have ih := gP_pos (os := os) fun p hp => h p (List.mem_cons_of_mem _ hp)
    have w := h o List.mem_cons_self
    have h1 := Int.mul_pos (show 0 < o.p by have := w.p; omega) (show 0 < gP os by omega)
    have h2 := Int.mul_pos (show 0 < o.q by have := w.q; omega) (show 0 < gQ os by omega)
    exact ⟨h1, h2⟩
theorem reg_nn : ∀ {os : List OfV}, (∀ o ∈ os, o.Wf) → 0 ≤ reg os
  | [], _ => Int.le_refl _
  | o :: os, h => by
    have w := (h o List.mem_cons_self).least
    have : o.least ≤ reg (o :: os) := Int.le_max_left _ _
    omega
/-- an amount from which on the step is regular -/
theorem stp_reg {o : OfV} {r a : Int} (w : o.Wf) (hr : 0 ≤ r) (ha : max o.least (((r + o.fee) * o.q + o.p - 1) / o.p) ≤ a) : stp o a = some (a * o.p / o.q - o.fee) ∧ r ≤ a * o.p / o.q - o.fee := by
  have hp := w.p
  have hq := w.q
  have h1 : o.least ≤ a := by omega
  have h2 : ((r + o.fee) * o.q + o.p - 1) / o.p ≤ a := by omega
  have h3 : (r + o.fee) * o.q ≤ a * o.p := by
    have : (r + o.fee) * o.q + o.p - 1 < (a + 1) * o.p := by
      have := Int.lt_mul_of_ediv_lt (c := o.p) (by omega) (show ((r + o.fee) * o.q + o.p - 1) / o.p < a + 1 by omega)
      exact this
    have e : (a + 1) * o.p = a * o.p + o.p := by rw [Int.add_mul, Int.one_mul]
    omega
  have h4 : r + o.fee ≤ a * o.p / o.q := Int.le_ediv_of_mul_le (by omega) h3
  refine ⟨?_, by omega⟩
  unfold stp
  rw [if_neg (by omega)]
  congr 1
  omega
theorem go_shift : ∀ {os : List OfV} {a m : Int}, (∀ o ∈ os, o.Wf) → reg os ≤ a → 0 ≤ m → ∃ b, go os a = some b ∧ 0 ≤ b ∧ go os (a + gQ os * m) = some (b + gP os * m)
  | [], a, m, _, h, hm => ⟨a, rfl, h, by simp [go, gP, gQ]⟩
  | o :: os, a, m, hw, h, hm => by
    have w := hw o List.mem_cons_self
    have hw' : ∀ p ∈ os, p.Wf := fun p hp => hw p (List.mem_cons_of_mem _ hp)
    have hp := w.p
    have hq := w.q
    have pp := gP_pos hw'
    have s1 := stp_reg w (reg_nn hw') h
    have hgm : 0 ≤ gQ (o :: os) * m := Int.mul_nonneg (by have := gP_pos hw; omega) hm
    have s2 := stp_reg (a := a + gQ (o :: os) * m) w (reg_nn hw') (Int.le_trans h (by omega))
    have e : (a + gQ (o :: os) * m) * o.p / o.q = a * o.p / o.q + gQ os * (o.p * m) := by
      have : (a + gQ (o :: os) * m) * o.p = a * o.p + o.q * (gQ os * (o.p * m)) := by
        show (a + o.q * gQ os * m) * o.p = _
        rw [Int.add_mul]
        congr 1
        ac_rfl
      rw [this, Int.add_mul_ediv_left _ _ (by omega)]
    obtain ⟨b, g1, g2, g3⟩ := go_shift (os := os) (a := a * o.p / o.q - o.fee) (m := o.p * m) hw' s1.2 (Int.mul_nonneg (by omega) hm)
    refine ⟨b, ?_, g2, ?_⟩
    · show (stp o a).bind (go os) = _
      rw [s1.1]
      exact g1
    · show (stp o (a + gQ (o :: os) * m)).bind (go os) = _
      rw [s2.1, e]
      show go os _ = _
      rw [show a * o.p / o.q + gQ os * (o.p * m) - o.fee = a * o.p / o.q - o.fee + gQ os * (o.p * m) by omega, g3]
      congr 1
      show b + gP os * (o.p * m) = b + o.p * gP os * m
      congr 1
      ac_rfl
/-! ### worse -/
def worse : Option Int → Option Int → Bool
  | some a, some b => decide (a < b)
  | none, some _ => true
  | _, _ => false
/-- what an answer says -/
structure Least (f : Int → Bool) (t : Option Int) : Prop where
  some : ∀ a, t = some a → 0 ≤ a ∧ f a = true ∧ ∀ b, 0 ≤ b → b < a → f b = false
  none : t = none → ∀ b, 0 ≤ b → f b = false
theorem Least.uniq {f : Int → Bool} {t u : Option Int} (h : Least f t) (k : Least f u) : t = u := by
  cases t with
  | none =>
    cases u with
    | none => rfl
    | some b =>
      have := k.some b rfl
      have := h.none rfl b this.1
      simp_all
  | some a =>
    have ha := h.some a rfl
    cases u with
    | none =>
      have := k.none rfl a ha.1
      simp_all
    | some b =>
      have hb := k.some b rfl
      congr 1
      rcases Int.lt_trichotomy a b with z | z | z
      · have := hb.2.2 a ha.1 z
        simp_all
      · exact z
      · have := ha.2.2 b hb.1 z
        simp_all
structure Cmp (os ps : List OfV) (B w : Int) : Prop where
  ow : ∀ o ∈ os, o.Wf
  pw : ∀ o ∈ ps, o.Wf
  ob : reg os ≤ B
  pb : reg ps ≤ B
  w0 : 0 < w
  od : ∃ k, 0 ≤ k ∧ w = gQ os * k
  pd : ∃ k, 0 ≤ k ∧ w = gQ ps * k
def riseP (os : List OfV) (w : Int) : Int := w * gP os / gQ os
theorem rise_of {os : List OfV} {w k : Int} (h : ∀ o ∈ os, o.Wf) (e : w = gQ os * k) : riseP os w = gP os * k := by
  have := gP_pos h
  unfold riseP
  rw [e, show gQ os * k * gP os = gQ os * (gP os * k) by ac_rfl, Int.mul_ediv_cancel_left _ (by omega)]
theorem go_far {os : List OfV} {B w a j : Int} (h : ∀ o ∈ os, o.Wf) (hb : reg os ≤ B) (d : ∃ k, 0 ≤ k ∧ w = gQ os * k) (ha : B ≤ a) (hj : 0 ≤ j) : ∃ b, go os a = some b ∧ go os (a + w * j) = some (b + riseP os w * j) := by
  obtain ⟨k, hk, e⟩ := d
  obtain ⟨b, g1, _, g3⟩ := go_shift (os := os) (a := a) (m := k * j) h (by omega) (Int.mul_nonneg hk hj)
  refine ⟨b, g1, ?_⟩
  rw [rise_of h e, e, show gQ os * k * j = gQ os * (k * j) by ac_rfl, g3, show gP os * k * j = gP os * (k * j) by ac_rfl]
/-- nothing found up to B + w, no drop: never -/
theorem never {os ps : List OfV} {B w : Int} (c : Cmp os ps B w) (hB : 0 ≤ B) (h0 : ∀ a, 0 ≤ a → a < B + w → worse (go os a) (go ps a) = false) (hd : riseP ps w - riseP os w ≤ 0) : Least (fun a => worse (go os a) (go ps a)) none := by
  refine ⟨(fun a e => nomatch e), fun _ a ha => ?_⟩
  by_cases h : a < B + w
  · exact h0 a ha h
  · have w0 := c.w0
    have e1 := Int.emod_nonneg (a - B) (show w ≠ 0 by omega)
    have e2 := Int.emod_lt_of_pos (a - B) w0
    have e3 := Int.emod_add_mul_ediv (a - B) w
    have e4 : 0 ≤ (a - B) / w := Int.ediv_nonneg (by omega) (by omega)
    generalize (a - B) / w = j at *
    generalize (a - B) % w = k at *
    obtain ⟨x, f1, f2⟩ := go_far (a := B + k) (j := j) c.ow c.ob c.od (by omega) e4
    obtain ⟨y, k1, k2⟩ := go_far (a := B + k) (j := j) c.pw c.pb c.pd (by omega) e4
    have ea : a = B + k + w * j := by omega
    have z := h0 (B + k) (by omega) (by omega)
    rw [f1, k1] at z
    have z : ¬ x < y := by simpa [worse] using z
    rw [ea, f2, k2]
    show decide _ = false
    rw [decide_eq_false_iff_not]
    have m := Int.mul_le_mul_of_nonneg_right (show riseP ps w ≤ riseP os w by omega) e4
    omega
theorem least_min {os ps : List OfV} {B w m : Int} (c : Cmp os ps B w) (hB : 0 ≤ B) (h0 : ∀ a, 0 ≤ a → a < B + w → worse (go os a) (go ps a) = false) (hd : 0 < riseP ps w - riseP os w)
    (ld : Int → Int) (hl : ∀ k, 0 ≤ k → k < w → ∃ x y, go os (B + k) = some x ∧ go ps (B + k) = some y ∧ ld k = x - y)
    (hm : ∃ k, 0 ≤ k ∧ k < w ∧ m = B + k + (ld k / (riseP ps w - riseP os w) + 1) * w) (hmin : ∀ k, 0 ≤ k → k < w → m ≤ B + k + (ld k / (riseP ps w - riseP os w) + 1) * w) : Least (fun a => worse (go os a) (go ps a)) (some m) := by
  have w0 := c.w0
  generalize hD : riseP ps w - riseP os w = D at *
  -- an amount of the far part
  have far : ∀ k j, 0 ≤ k → k < w → 0 ≤ j → (worse (go os (B + k + w * j)) (go ps (B + k + w * j)) = true ↔ ld k / D + 1 ≤ j) := by
    intro k j hk0 hk1 hj
    obtain ⟨x, f1, f2⟩ := go_far (a := B + k) (j := j) c.ow c.ob c.od (by omega) hj
    obtain ⟨y, k1, k2⟩ := go_far (a := B + k) (j := j) c.pw c.pb c.pd (by omega) hj
    obtain ⟨x', y', l1, l2, l3⟩ := hl k hk0 hk1
    rw [f1] at l1
    rw [k1] at l2
    cases l1
    cases l2
    rw [f2, k2]
    show decide _ = true ↔ _
    rw [decide_eq_true_eq, l3]
    have e : riseP ps w * j = riseP os w * j + D * j := by rw [← hD, Int.sub_mul]; omega
    rw [e]
    constructor
    · intro h
      have : (x - y) / D < j := Int.ediv_lt_of_lt_mul hd (by rw [Int.mul_comm]; omega)
      omega
    · intro h
      have : x - y < j * D := Int.lt_mul_of_ediv_lt hd (by omega)
      rw [Int.mul_comm] at this
      omega
  have ldn : ∀ k, 0 ≤ k → k < w → 0 ≤ ld k := by
    intro k hk0 hk1
    obtain ⟨x, y, l1, l2, l3⟩ := hl k hk0 hk1
    have z := h0 (B + k) (by omega) (by omega)
    rw [l1, l2] at z
    have z : ¬ x < y := by simpa [worse] using z
    omega
  refine ⟨fun a e => ?_, fun e => nomatch e⟩
  cases e
  obtain ⟨k, hk0, hk1, em⟩ := hm
  have hq : 0 ≤ ld k / D := Int.ediv_nonneg (ldn k hk0 hk1) (by omega)
  refine ⟨?_, ?_, fun b hb0 hb1 => ?_⟩
  · rw [em]
    have := Int.mul_nonneg (show 0 ≤ ld k / D + 1 by omega) (show 0 ≤ w by omega)
    omega
  · rw [em, Int.mul_comm _ w]
    exact (far k _ hk0 hk1 (by omega)).mpr (Int.le_refl _)
  · by_cases h : b < B + w
    · exact h0 b hb0 h
    · have e1 := Int.emod_nonneg (b - B) (show w ≠ 0 by omega)
      have e2 := Int.emod_lt_of_pos (b - B) w0
      have e3 := Int.emod_add_mul_ediv (b - B) w
      have e4 : 0 ≤ (b - B) / w := Int.ediv_nonneg (by omega) (by omega)
      generalize (b - B) / w = j at *
      generalize (b - B) % w = i at *
      have eb : b = B + i + w * j := by omega
      cases z : worse (go os b) (go ps b) with
      | false => rfl
      | true =>
        exfalso
        rw [eb] at z
        have z := (far i j e1 e2 e4).mp z
        have mm := hmin i e1 e2
        have := Int.mul_le_mul_of_nonneg_right z (show 0 ≤ w by omega)
        rw [Int.mul_comm j w] at this
        omega
end Lw
/-! Cq: what the program's functions of comparison answer. -/
namespace Lw
open PySem Dn
open L2 hiding bin
theorem a20 {a b : PV} {Z : PV → Prop} : (∃ v, L2.atI [a, b] 0 = some v ∧ Z v) ↔ Z a := ⟨fun ⟨_, e, q⟩ => by cases e; exact q, fun q => ⟨_, rfl, q⟩⟩
theorem a21 {a b : PV} {Z : PV → Prop} : (∃ v, L2.atI [a, b] 1 = some v ∧ Z v) ↔ Z b := ⟨fun ⟨_, e, q⟩ => by cases e; exact q, fun q => ⟨_, rfl, q⟩⟩
local macro_rules | `(tactic| walk_at "st") => `(tactic| try simp only [ok_ret, ok_bnd, ok_bin, ok_var, varK_val, varK_own, pv_val, pv_own, ok_asB, asBK_bl, ok_andT, ok_orT, ok_notT, ok_iteT, ok_andV, ok_notV, blK_bl,
  ok_argN, ok_argC, ok_fits, ok_tupM, ok_lstM, ok_parN, ok_parS, intK_int, ok_slM, ok_joinM, strK_str, ok_itemsM, ok_rngM, ok_seqM, seqK_nx, seqK_rt, seqK_bk, seqK_ct, ok_ifM, ok_retM, ok_dropM, ok_skipM, ok_asgM, ok_asgO, ok_par2, ok_par2VO, ok_par3,
  ok_callM, rtK_rt, rtK_nx, ok_loopM, ok_lcM, ok_dispM, ok_prsN, ok_prsC, ok_hget0, getK_some, ok_hputM, putK0, pc, pb, pl, ppb, ppl, plen, ok_add, ok_addS, ok_addT, ok_addL, ok_sub, ok_mul, ok_ixL, ok_ixT, ok_unp, unpK_tup, ok_set0, ok_setC, ok_app, flK_nx, flK_ct, flK_bk, flK_rt, sl_L, sl_T, sl_S, it_L, it_T, wip, ok_div, ok_mod, ok_pow, ok_rep, ok_ord, ok_fInt, ok_fAbs, ok_lenL, ok_lenT, ok_lenS, ok_fListL, ok_fListT, ok_fTupleL, ok_fTupleT, ok_eqI, ok_eqB, ok_eqS,
  okF_ok, okF_exc, ok_runM, ok_appA, ok_len1, ok_argS, starK_tup, starK_lst, ok_chain, isNonB_non, isNonB_int, isNonB_bl, isNonB_str, isNonB_tup, isNonB_lst, isNonB_obj, ok_isN, ok_max, ok_min, isi_int_int, isi_int_bl, isi_int_non, isi_int_str, isi_int_tup, isi_int_lst, isi_bool_int, isi_bool_bl, isi_str_str, isi_str_int, isi_str_bl, isi_str_non, isi_str_tup, isi_str_lst, isi_tuple_tup, isi_tuple_int, isi_tuple_bl, isi_tuple_non, isi_tuple_str, isi_tuple_lst,
  ok_conM, ok_fputM, fputK_new, conV_new, ok_makeM, ok_methM,
  List.map_cons, List.map_nil, List.replicate_succ, List.replicate_zero, List.cons_append, List.nil_append, List.append_nil, List.getElem?_cons_zero, List.getElem?_cons_succ, List.set_cons_zero, List.set_cons_succ, Nat.reduceSub, decide_eq_true_eq, if_true, if_false, Bool.false_eq_true, Bool.not_true, Bool.not_false, beq_self_eq_true, Bool.true_eq_false, bne_self_eq_false, Bool.bne_true, Bool.bne_false, Nat.zero_add, Nat.reduceAdd, true_and, and_true, reduceCtorEq, List.length_cons, List.length_nil, f_rate, f_fee, f_least, g_start, g_end, g_offs])
section
variable {n : Nat} {o : OfV} {c : Str} {os : List OfV} {st : List MO} {s : S} {E : PV → S → Prop} {Q : PV → S → Prop}
theorem eq_p_rate : m_Office_rate n [o.pv] st = .ok (.tup [.int o.p, .int o.q]) st := by
  refine OkFx.eq ?_
  unfold m_Office_rate
  refine okF_fn rfl ?_
  unfold b_Office_rate
  walk_at "st"
theorem eq_p_fee : m_Office_fee n [o.pv] st = .ok (.int o.fee) st := by
  refine OkFx.eq ?_
  unfold m_Office_fee
  refine okF_fn rfl ?_
  unfold b_Office_fee
  walk_at "st"
theorem eq_p_least : m_Office_least n [o.pv] st = .ok (.int o.least) st := by
  refine OkFx.eq ?_
  unfold m_Office_least
  refine okF_fn rfl ?_
  unfold b_Office_least
  walk_at "st"
theorem eq_p_most0 : m_Office_most n [o.pv] st = .ok .non st := by
  refine OkFx.eq ?_
  unfold m_Office_most
  refine okF_fn rfl ?_
  unfold b_Office_most
  walk_at "st"
theorem eq_p_most1 {k : Int} (h : o.most = some k) : m_CappedOffice_most n [o.pv] st = .ok (.int k) st := by
  refine OkFx.eq ?_
  unfold m_CappedOffice_most
  refine okF_fn rfl ?_
  unfold b_CappedOffice_most
  walk_at "st"
  rw [f_most h]
  exact ⟨rfl, rfl⟩
theorem p_rate : Okx E (propM tp_rate n o.pv) s Q ↔ Q (.tup [.int o.p, .int o.q]) s := prp rfl rfl (fun _ _ => eq_p_rate) (fun _ _ _ => eq_p_rate)
theorem p_fee : Okx E (propM tp_fee n o.pv) s Q ↔ Q (.int o.fee) s := prp rfl rfl (fun _ _ => eq_p_fee) (fun _ _ _ => eq_p_fee)
theorem p_least : Okx E (propM tp_least n o.pv) s Q ↔ Q (.int o.least) s := prp rfl rfl (fun _ _ => eq_p_least) (fun _ _ _ => eq_p_least)
theorem p_most : Okx E (propM tp_most n o.pv) s Q ↔ Q o.mostV s := prp rfl rfl (fun h _ => by rw [mostV_none h]; exact eq_p_most0) (fun k h _ => by rw [mostV_some h]; exact eq_p_most1 h)
theorem eq_p_start : m_Route_start n [Rt c os] st = .ok (.str c) st := by
  refine OkFx.eq ?_
  unfold m_Route_start
  refine okF_fn rfl ?_
  unfold b_Route_start
  walk_at "st"
theorem eq_p_end : m_Route_end n [Rt c os] st = .ok (.str (endO c os)) st := by
  refine OkFx.eq ?_
  unfold m_Route_end
  refine okF_fn rfl ?_
  unfold b_Route_end
  walk_at "st"
theorem eq_p_offices : m_Route_offices n [Rt c os] st = .ok (.tup (os.map OfV.pv)) st := by
  refine OkFx.eq ?_
  unfold m_Route_offices
  refine okF_fn rfl ?_
  unfold b_Route_offices
  walk_at "st"
theorem eq_Route_len (hl : os.length ≤ sizeLine) : m_Route_len n [Rt c os] st = .ok (.int os.length) st := by
  refine OkFx.eq ?_
  unfold m_Route_len
  refine okF_fn rfl ?_
  unfold b_Route_len
  walk_at "st"
  all_goals simp [wip]
theorem p_start : Okx E (propM tp_start n (Rt c os)) s Q ↔ Q (.str c) s := propM_obj rfl eq_p_start
theorem p_end : Okx E (propM tp_end n (Rt c os)) s Q ↔ Q (.str (endO c os)) s := propM_obj rfl eq_p_end
theorem p_offices : Okx E (propM tp_offices n (Rt c os)) s Q ↔ Q (.tup (os.map OfV.pv)) s := propM_obj rfl eq_p_offices
theorem l_Route (hl : os.length ≤ 16777216) : Okx E (lenO tl_len n (Rt c os)) s Q ↔ Q (.int os.length) s := by
  have e := eq_Route_len (n := n) (c := c) (os := os) (st := s.sto) (by rw [sizeLine_eq]; exact hl)
  unfold Rt at e ⊢
  rw [ok_lenO rfl, ok_runM, e, okF_ok, ok_lenR (by omega)]
end
local macro_rules | `(tactic| walk_at "st") => `(tactic| try simp only [ok_ret, ok_bnd, ok_bin, ok_var, varK_val, varK_own, pv_val, pv_own, ok_asB, asBK_bl, ok_andT, ok_orT, ok_notT, ok_iteT, ok_andV, ok_notV, blK_bl,
  ok_argN, ok_argC, ok_fits, ok_tupM, ok_lstM, ok_parN, ok_parS, intK_int, ok_slM, ok_joinM, strK_str, ok_itemsM, ok_rngM, ok_seqM, seqK_nx, seqK_rt, seqK_bk, seqK_ct, ok_ifM, ok_retM, ok_dropM, ok_skipM, ok_asgM, ok_asgO, ok_par2, ok_par2VO, ok_par3,
  ok_callM, rtK_rt, rtK_nx, ok_loopM, ok_lcM, ok_dispM, ok_prsN, ok_prsC, ok_hget0, getK_some, ok_hputM, putK0, pc, pb, pl, ppb, ppl, plen, ok_add, ok_addS, ok_addT, ok_addL, ok_sub, ok_mul, ok_ixL, ok_ixT, ok_unp, unpK_tup, ok_set0, ok_setC, ok_app, flK_nx, flK_ct, flK_bk, flK_rt, sl_L, sl_T, sl_S, it_L, it_T, wip, ok_div, ok_mod, ok_pow, ok_rep, ok_ord, ok_fInt, ok_fAbs, ok_lenL, ok_lenT, ok_lenS, ok_fListL, ok_fListT, ok_fTupleL, ok_fTupleT, ok_eqI, ok_eqB, ok_eqS,
  okF_ok, okF_exc, ok_runM, ok_appA, ok_len1, ok_argS, starK_tup, starK_lst, ok_chain, isNonB_non, isNonB_int, isNonB_bl, isNonB_str, isNonB_tup, isNonB_lst, isNonB_obj, ok_isN, ok_max, ok_min, isi_int_int, isi_int_bl, isi_int_non, isi_int_str, isi_int_tup, isi_int_lst, isi_bool_int, isi_bool_bl, isi_str_str, isi_str_int, isi_str_bl, isi_str_non, isi_str_tup, isi_str_lst, isi_tuple_tup, isi_tuple_int, isi_tuple_bl, isi_tuple_non, isi_tuple_str, isi_tuple_lst,
  ok_conM, ok_fputM, fputK_new, conV_new, ok_makeM, ok_methM,
  List.map_cons, List.map_nil, List.replicate_succ, List.replicate_zero, List.cons_append, List.nil_append, List.append_nil, List.getElem?_cons_zero, List.getElem?_cons_succ, List.set_cons_zero, List.set_cons_succ, Nat.reduceSub, decide_eq_true_eq, if_true, if_false, Bool.false_eq_true, Bool.not_true, Bool.not_false, beq_self_eq_true, Bool.true_eq_false, bne_self_eq_false, Bool.bne_true, Bool.bne_false, Nat.zero_add, Nat.reduceAdd, true_and, and_true, reduceCtorEq, List.length_cons, List.length_nil, f_rate, f_fee, f_least, g_start, g_end, g_offs, p_rate, p_fee, p_least, p_most, p_start, p_end, p_offices, a20, a21, ok_mulI])
local macro_rules | `(tactic| walk_at "sx") => `(tactic| try simp only [ok_ret, ok_bnd, ok_bin, ok_var, varK_val, varK_own, pv_val, pv_own, ok_asB, asBK_bl, ok_andT, ok_orT, ok_notT, ok_iteT, ok_andV, ok_notV, blK_bl,
  ok_argN, ok_argC, ok_fits, ok_tupM, ok_lstM, ok_parN, ok_parS, intK_int, ok_slM, ok_joinM, strK_str, ok_itemsM, ok_rngM, seqK_nx, seqK_rt, seqK_bk, seqK_ct, ok_ifM, ok_retM, ok_dropM, ok_skipM, ok_asgM, ok_asgO, ok_par2, ok_par2VO, ok_par3,
  ok_callM, rtK_rt, rtK_nx, ok_loopM, ok_lcM, ok_dispM, ok_prsN, ok_prsC, ok_hget0, getK_some, ok_hputM, putK0, pc, pb, pl, ppb, ppl, plen, ok_add, ok_addS, ok_addT, ok_addL, ok_sub, ok_mul, ok_ixL, ok_ixT, ok_unp, unpK_tup, ok_set0, ok_setC, ok_app, flK_nx, flK_ct, flK_bk, flK_rt, sl_L, sl_T, sl_S, it_L, it_T, wip, ok_div, ok_mod, ok_pow, ok_rep, ok_ord, ok_fInt, ok_fAbs, ok_lenL, ok_lenT, ok_lenS, ok_fListL, ok_fListT, ok_fTupleL, ok_fTupleT, ok_eqI, ok_eqB, ok_eqS,
  okF_ok, okF_exc, ok_runM, ok_appA, ok_len1, ok_argS, starK_tup, starK_lst, ok_chain, isNonB_non, isNonB_int, isNonB_bl, isNonB_str, isNonB_tup, isNonB_lst, isNonB_obj, ok_isN, ok_max, ok_min, isi_int_int, isi_int_bl, isi_int_non, isi_int_str, isi_int_tup, isi_int_lst, isi_bool_int, isi_bool_bl, isi_str_str, isi_str_int, isi_str_bl, isi_str_non, isi_str_tup, isi_str_lst, isi_tuple_tup, isi_tuple_int, isi_tuple_bl, isi_tuple_non, isi_tuple_str, isi_tuple_lst,
  ok_conM, ok_fputM, fputK_new, conV_new, ok_makeM, ok_methM,
  List.map_cons, List.map_nil, List.replicate_succ, List.replicate_zero, List.cons_append, List.nil_append, List.append_nil, List.getElem?_cons_zero, List.getElem?_cons_succ, List.set_cons_zero, List.set_cons_succ, Nat.reduceSub, decide_eq_true_eq, if_true, if_false, Bool.false_eq_true, Bool.not_true, Bool.not_false, beq_self_eq_true, Bool.true_eq_false, bne_self_eq_false, Bool.bne_true, Bool.bne_false, Nat.zero_add, Nat.reduceAdd, true_and, and_true, reduceCtorEq, List.length_cons, List.length_nil, f_rate, f_fee, f_least, g_start, g_end, g_offs, p_rate, p_fee, p_least, p_most, p_start, p_end, p_offices, a20, a21, ok_mulI])
set_option maxHeartbeats 4000000 in
theorem eq_need_alike {n : Nat} {c : Str} {os ps : List OfV} {st : List MO} (he : endO c os = endO c ps) (ho : ∀ o ∈ os, o.most = none) (hp : ∀ o ∈ ps, o.most = none) (h1 : os.length ≤ 2) (h2 : ps.length ≤ 2) : m_need_alike n [Rt c os, Rt c ps] st = .ok .non st := by
  have hz : sizeLine = 16777216 := sizeLine_eq
  refine OkFx.eq ?_
  unfold m_need_alike
  refine okF_fn rfl ?_
  unfold b_need_alike
  refine ok_seq ?_
  walk_at "sx"
  rw [he]
  simp only [beq_self_eq_true, Bool.not_true, if_false, Bool.false_eq_true]
  walk_at "sx"
  refine ok_seq ?_
  walk_at "sx"
  refine ⟨by omega, ?_⟩
  refine ok_for (fun j s => ∃ e2 e3, s = ⟨[some (SV.val (Rt c os)), some (SV.val (Rt c ps)), e2, e3], st⟩) ⟨none, none, rfl⟩ ?_ ?_
  · rintro j x s hx ⟨e2, e3, rfl⟩
    have hm := List.mem_of_getElem? hx
    obtain ⟨qs, rfl, hq⟩ : ∃ qs : List OfV, x = Rt c qs ∧ ∀ o ∈ qs, o.most = none := by
      simp only [List.mem_cons, List.not_mem_nil, or_false] at hm
      rcases hm with rfl | rfl
      · exact ⟨_, rfl, ho⟩
      · exact ⟨_, rfl, hp⟩
    walk_at "st"
    refine ok_for (fun j s => ∃ e3, s = ⟨[some (SV.val (Rt c os)), some (SV.val (Rt c ps)), some (SV.val (Rt c qs)), e3], st⟩) ⟨e3, rfl⟩ ?_ ?_
    · rintro i x s hx ⟨e3, rfl⟩
      rw [List.getElem?_map] at hx
      obtain ⟨o, ho', rfl⟩ := Option.map_eq_some_iff.mp hx
      walk_at "st"
      rw [mostV_none (hq o (List.mem_of_getElem? ho'))]
      walk_at "st"
      exact ⟨_, rfl⟩
    · rintro s ⟨e3, rfl⟩
      exact ⟨_, _, rfl⟩
  rintro s ⟨e2, e3, rfl⟩
  walk_at "st"
  rw [l_Route (by omega)]
  walk_at "st"
  rw [if_neg (by omega), l_Route (by omega)]
  walk_at "st"
  rw [if_neg (by omega)]
  trivial
def prodI : List Int → Int
  | [] => 1
  | x :: r => x * prodI r
theorem prodI_snoc : ∀ {xs : List Int} {x : Int}, prodI (xs ++ [x]) = prodI xs * x
  | [], x => by simp [prodI]
  | y :: xs, x => by simp only [List.cons_append, prodI]; rw [prodI_snoc, Int.mul_assoc]
theorem prodI_q : ∀ {os : List OfV}, prodI (os.map (·.q)) = gQ os
  | [] => rfl
  | o :: os => by simp only [List.map_cons, prodI, gQ]; rw [prodI_q]
theorem prodI_p : ∀ {os : List OfV}, prodI (os.map (·.p)) = gP os
  | [] => rfl
  | o :: os => by simp only [List.map_cons, prodI, gP]; rw [prodI_p]
theorem prodI_le {xs : List Int} (h : ∀ x ∈ xs, 1 ≤ x ∧ x ≤ 9) (hl : xs.length ≤ 2) : 1 ≤ prodI xs ∧ prodI xs ≤ 81 := by
  rcases xs with _ | ⟨a, _ | ⟨b, _ | ⟨c, r⟩⟩⟩
  · exact ⟨by decide, by decide⟩
  · have := h a (by simp)
    simp only [prodI]
    omega
  · have h1 := h a (by simp)
    have h2 := h b (by simp)
    simp only [prodI, Int.mul_one]
    have k1 := Int.mul_le_mul h1.2 h2.2 (by omega) (by decide)
    have k2 := Int.mul_pos (show 0 < a by omega) (show 0 < b by omega)
    omega
  · simp at hl
theorem g_le {os : List OfV} (h : ∀ o ∈ os, o.Wf) (hl : os.length ≤ 2) : (1 ≤ gQ os ∧ gQ os ≤ 81) ∧ (1 ≤ gP os ∧ gP os ≤ 81) := by
  rw [← prodI_q, ← prodI_p]
  refine ⟨prodI_le (fun x hx => ?_) (by simpa using hl), prodI_le (fun x hx => ?_) (by simpa using hl)⟩
  · obtain ⟨o, ho, rfl⟩ := List.mem_map.mp hx
    exact (h o ho).q
  · obtain ⟨o, ho, rfl⟩ := List.mem_map.mp hx
    exact (h o ho).p
set_option maxHeartbeats 4000000 in
theorem eq_product {n : Nat} {xs : List Int} {st : List MO} (h : ∀ x ∈ xs, 1 ≤ x ∧ x ≤ 9) (hl : xs.length ≤ 2) : m_product n [.lst (xs.map .int)] st = .ok (.int (prodI xs)) st := by
  have hz : sizeLine = 16777216 := sizeLine_eq
  refine OkFx.eq ?_
  unfold m_product
  refine okF_fn rfl ?_
  unfold b_product
  refine ok_seq ?_
  walk_at "sx"
  refine ok_seq ?_
  walk_at "sx"
  refine ok_for (fun j s => ∃ e2, s = ⟨[some (SV.val (.lst (xs.map .int))), some (SV.val (.int (prodI (xs.take j)))), e2], st⟩) ⟨none, rfl⟩ ?_ ?_
  · rintro j x s hx ⟨e2, rfl⟩
    rw [List.getElem?_map] at hx
    obtain ⟨y, hy, rfl⟩ := Option.map_eq_some_iff.mp hx
    have e1 : xs.take (j + 1) = xs.take j ++ [y] := by rw [List.take_add_one, hy]; rfl
    have b1 := prodI_le (xs := xs.take j) (fun x hx => h x (List.mem_of_mem_take hx)) (by rw [List.length_take]; omega)
    have b2 := h y (List.mem_of_getElem? hy)
    walk_at "st"
    rw [ok_mulI]
    refine ⟨cmul100 (by omega) (by omega), some (SV.val (.int y)), ?_⟩
    rw [e1, prodI_snoc]
    rfl
  · rintro s ⟨e2, rfl⟩
    rw [List.length_map, List.take_length]
    walk_at "st"
set_option maxHeartbeats 4000000 in
theorem eq_divisor {n : Nat} {c : Str} {os : List OfV} {st : List MO} (h : ∀ o ∈ os, o.Wf) (hl : os.length ≤ 2) : m_divisor n [Rt c os] st = .ok (.int (gQ os)) st := by
  have hz : sizeLine = 16777216 := sizeLine_eq
  refine OkFx.eq ?_
  unfold m_divisor
  refine okF_fn rfl ?_
  unfold b_divisor
  walk_at "st"
  refine ok_lcT OfV.pv (fun _ => true) (fun o => PV.int o.q) rfl (by simp) (by omega) (fun _ => rfl) (fun o ho => ?_) (fun o ho _ => ?_) ?_
  · walk_at "st"
  · walk_at "st"
  · rw [filter_true]
    have e := eq_product (n := n) (xs := os.map (·.q)) (st := st) (fun x hx => by obtain ⟨o, ho, rfl⟩ := List.mem_map.mp hx; exact (h o ho).q) (by simpa using hl)
    rw [List.map_map] at e
    walk_at "st"
    rw [show List.map (fun (o : OfV) => PV.int o.q) os = List.map (PV.int ∘ fun x => x.q) os from rfl, e]
    exact ⟨by rw [prodI_q], rfl⟩
set_option maxHeartbeats 4000000 in
theorem eq_rise {n : Nat} {c : Str} {os : List OfV} {w : Int} {st : List MO} (h : ∀ o ∈ os, o.Wf) (hl : os.length ≤ 2) (hw : 0 ≤ w ∧ w ≤ 1000000) : m_rise n [Rt c os, .int w] st = .ok (.int (riseP os w)) st := by
  have hz : sizeLine = 16777216 := sizeLine_eq
  have g := g_le h hl
  refine OkFx.eq ?_
  unfold m_rise
  refine okF_fn rfl ?_
  unfold b_rise
  walk_at "st"
  refine ok_lcT OfV.pv (fun _ => true) (fun o => PV.int o.p) rfl (by simp) (by omega) (fun _ => rfl) (fun o ho => ?_) (fun o ho _ => ?_) ?_
  · walk_at "st"
  · walk_at "st"
  · rw [filter_true]
    have e := eq_product (n := n) (xs := os.map (·.p)) (st := st) (fun x hx => by obtain ⟨o, ho, rfl⟩ := List.mem_map.mp hx; exact (h o ho).p) (by simpa using hl)
    rw [List.map_map] at e
    walk_at "st"
    rw [show List.map (fun (o : OfV) => PV.int o.p) os = List.map (PV.int ∘ fun x => x.p) os from rfl, e, prodI_p]
    walk_at "st"
    refine ⟨cmul100 (by omega) (by omega), ?_⟩
    rw [eq_divisor h hl]
    walk_at "st"
    exact ⟨cdiv100 (by omega) (by omega), rfl⟩
theorem reg_le {os : List OfV} (h : ∀ o ∈ os, o.Wf) (hl : os.length ≤ 2) : 0 ≤ reg os ∧ reg os ≤ 10000 := by
  have key : ∀ (o : OfV) (r X : Int), o.Wf → 0 ≤ r → r ≤ X → max o.least (((r + o.fee) * o.q + o.p - 1) / o.p) ≤ max 1000 ((X + 20) * 9) := by
    intro o r X w h0 h1
    have hp := w.p
    have hq := w.q
    have hf := w.fee
    have hl := w.least
    have k1 : (r + o.fee) * o.q ≤ (X + 20) * 9 := Int.mul_le_mul (by omega) hq.2 (by omega) (by omega)
    have k0 : 0 ≤ (r + o.fee) * o.q := Int.mul_nonneg (by omega) (by omega)
    generalize (r + o.fee) * o.q = y at *
    have k3 : y * 1 ≤ y * o.p := Int.mul_le_mul_of_nonneg_left hp.1 k0
    have k2 : (y + o.p - 1) / o.p < y + 1 := Int.ediv_lt_of_lt_mul (by omega) (by rw [Int.add_mul, Int.one_mul]; omega)
    omega
  refine ⟨reg_nn h, ?_⟩
  rcases os with _ | ⟨a, _ | ⟨b, _ | ⟨c, r⟩⟩⟩
  · simp [reg]
  · have := key a 0 0 (h a (by simp)) (by omega) (by omega)
    simp only [reg]
    omega
  · have h1 := key b 0 0 (h b (by simp)) (by omega) (by omega)
    have h2 := key a (reg [b]) 1000 (h a (by simp)) (reg_nn fun o ho => h o (List.mem_cons_of_mem _ ho)) (by simp only [reg]; omega)
    simp only [reg] at h2 ⊢
    omega
  · simp at hl
set_option maxHeartbeats 4000000 in
theorem eq_regular {n : Nat} {c : Str} {os : List OfV} {st : List MO} (h : ∀ o ∈ os, o.Wf) (hl : os.length ≤ 2) : m_regular_from n [Rt c os] st = .ok (.int (reg os)) st := by
  have hz : sizeLine = 16777216 := sizeLine_eq
  refine OkFx.eq ?_
  unfold m_regular_from
  refine okF_fn rfl ?_
  unfold b_regular_from
  refine ok_seq ?_
  walk_at "sx"
  refine ok_seq ?_
  walk_at "sx"
  rw [ok_revL]
  walk_at "sx"
  rw [← List.map_reverse]
  refine ok_for (fun j s => ∃ e2 e3 e4, s = ⟨[some (SV.val (Rt c os)), some (SV.val (.int (reg (os.reverse.take j).reverse))), e2, e3, e4], st⟩) ⟨none, none, none, rfl⟩ ?_ ?_
  · rintro j x s hx ⟨e2, e3, e4, rfl⟩
    rw [List.getElem?_map] at hx
    obtain ⟨o, ho, rfl⟩ := Option.map_eq_some_iff.mp hx
    have e1 : (os.reverse.take (j + 1)).reverse = o :: (os.reverse.take j).reverse := by rw [List.take_add_one, ho]; simp
    have hm : ∀ p ∈ (os.reverse.take j).reverse, p ∈ os := fun p hp => by simpa using List.mem_of_mem_take (List.mem_reverse.mp hp)
    have b1 := reg_le (os := (os.reverse.take j).reverse) (fun p hp => h p (hm p hp)) (by simp; omega)
    have w := h o (by simpa using List.mem_of_getElem? ho)
    have hp := w.p
    have hq := w.q
    have hf := w.fee
    walk_at "st"
    refine ⟨cmul100 (by omega) (by omega), cdiv100 (by omega) (by omega), some (SV.val o.pv), some (SV.val (.int o.p)), some (SV.val (.int o.q)), ?_⟩
    rw [e1]
    rfl
  · rintro s ⟨e2, e3, e4, rfl⟩
    rw [List.length_map, List.take_length, List.reverse_reverse]
    walk_at "st"
set_option maxHeartbeats 4000000 in
theorem eq_common {n : Nat} {a b : Nat} {st : List MO} (hn : 100000000 < n) (ha : 0 < a ∧ a ≤ 1000000) (hb : 0 < b ∧ b ≤ 1000000) : m_common_multiple n [.int (a : Nat), .int (b : Nat)] st = .ok (.int (Nat.lcm a b : Nat)) st := by
  have hz : sizeLine = 16777216 := sizeLine_eq
  have hg : 0 < Nat.gcd b a := Nat.gcd_pos_of_pos_right b ha.1
  have hg2 : Nat.gcd b a ≤ a := Nat.le_of_dvd ha.1 (Nat.gcd_dvd_right b a)
  refine OkFx.eq ?_
  unfold m_common_multiple
  refine okF_fn rfl ?_
  unfold b_common_multiple
  refine ok_seq ?_
  walk_at "sx"
  refine ok_seq ?_
  refine ok_gcd (i := 3) (j := 2) (a := b) (b := a) (by omega) rfl rfl (by decide) (fun e y he => ?_) (fun e x y hy h2 h3 => ?_) ?_
  · rw [ok_asB, ok_bin, ok_var, he, varK_val, ok_ret, ok_ord, asBK_bl]
    exact ⟨by simp, rfl⟩
  · rw [ok_par2, ok_bin, ok_var, h2, varK_val, ok_var, h3, varK_val, ok_mod]
    refine ⟨by omega, ?_⟩
    rw [ok_var, h3, varK_val]
    refine ⟨rfl, ?_⟩
    rw [List.set_comm _ _ (by decide)]
    rfl
  walk_at "sx"
  refine ⟨cmul100 (by omega) (by omega), cdiv100 (by omega) (by omega), ?_⟩
  congr 1
  show ((a : Int) * (b : Int)) / ((Nat.gcd b a : Nat) : Int) = ((a * b / Nat.gcd a b : Nat) : Int)
  rw [Nat.gcd_comm b a]
  rfl
/-! ### results -/
def optV : Option Int → PV
  | none => .non
  | some i => .int i
theorem stp_le {o : OfV} {a b : Int} (w : o.Wf) (h : stp o a = some b) (ha : 0 ≤ a) : 0 ≤ b ∧ b ≤ a * 9 := by
  have hp := w.p
  have hq := w.q
  have hf := w.fee
  unfold stp at h
  split at h
  · cases h
  · cases h
    have k1 : a * o.p ≤ a * 9 := Int.mul_le_mul_of_nonneg_left hp.2 ha
    have k0 : 0 ≤ a * o.p := Int.mul_nonneg ha (by omega)
    have k2 : a * o.p / o.q ≤ a * o.p := Int.ediv_le_self _ k0
    omega
theorem go_le : ∀ {os : List OfV} {a b : Int}, (∀ o ∈ os, o.Wf) → go os a = some b → 0 ≤ a → 0 ≤ b ∧ b ≤ a * 9 ^ os.length
  | [], a, b, _, h, ha => by
    cases h
    simp [ha]
  | o :: os, a, b, hw, h, ha => by
    have h : (stp o a).bind (go os) = some b := h
    obtain ⟨c, h1, h2⟩ := Option.bind_eq_some_iff.mp h
    have k1 := stp_le (hw o List.mem_cons_self) h1 ha
    have k2 := go_le (fun p hp => hw p (List.mem_cons_of_mem _ hp)) h2 k1.1
    refine ⟨k2.1, Int.le_trans k2.2 ?_⟩
    have : (0 : Int) ≤ 9 ^ os.length := Int.pow_nonneg (by decide)
    have := Int.mul_le_mul_of_nonneg_right k1.2 this
    rw [List.length_cons, Int.pow_succ]
    rw [Int.mul_assoc, Int.mul_comm 9] at this
    exact this
theorem go_le2 {os : List OfV} {a b : Int} (hw : ∀ o ∈ os, o.Wf) (hl : os.length ≤ 2) (h : go os a = some b) (ha : 0 ≤ a) : 0 ≤ b ∧ b ≤ a * 81 := by
  have k := go_le hw h ha
  refine ⟨k.1, Int.le_trans k.2 (Int.mul_le_mul_of_nonneg_left ?_ ha)⟩
  have : os.length = 0 ∨ os.length = 1 ∨ os.length = 2 := by omega
  rcases this with e | e | e <;> rw [e] <;> decide
set_option maxHeartbeats 4000000 in
theorem eq_Office_result {n : Nat} {o : OfV} {a : Int} {st : List MO} (h : o.Wf) (ha : 0 ≤ a ∧ a ≤ 1000000000000000000000000000) : m_Office_result n [o.pv, .int a] st = .ok (optV (stp o a)) st := by
  have hp := h.p
  have hq := h.q
  refine OkFx.eq ?_
  unfold m_Office_result
  refine okF_fn rfl ?_
  unfold b_Office_result stp
  walk_at "st"
  split
  · rename_i hh
    first | trivial | exact ⟨rfl, rfl⟩
  · refine ⟨cmul100 (by omega) (by omega), cdiv100 (by omega) (by omega), rfl⟩
theorem o_resultU {tab : List (Str × Fn)} {n : Nat} {o : OfV} {ra : M (List PV)} (h0 : tab.lookup (Str.ofString "Office") = some m_Office_result) (hm : o.most = none) : methD tab n "result" ra o.pv = bnd ra fun ds => runM m_Office_result n (o.pv :: ds) := by
  rw [OfV.pv_none hm]
  exact methD_obj rfl h0
theorem r_result {tab : List (Str × Fn)} {n : Nat} {c : Str} {os : List OfV} {ra : M (List PV)} (h0 : tab.lookup (Str.ofString "Route") = some m_Route_result) : methD tab n "result" ra (Rt c os) = bnd ra fun ds => runM m_Route_result n (Rt c os :: ds) := methD_obj rfl h0
set_option maxHeartbeats 4000000 in
theorem eq_Route_result {n : Nat} {c : Str} {os : List OfV} {a : Int} {st : List MO} (h : ∀ o ∈ os, o.Wf) (hu : ∀ o ∈ os, o.most = none) (hl : os.length ≤ 2) (ha : 0 ≤ a ∧ a ≤ 1000000000000000000) : m_Route_result n [Rt c os, .int a] st = .ok (optV (go os a)) st := by
  have hz : sizeLine = 16777216 := sizeLine_eq
  refine OkFx.eq ?_
  unfold m_Route_result
  refine okF_fn rfl ?_
  unfold b_Route_result
  refine ok_seq ?_
  walk_at "sx"
  refine ok_seq ?_
  walk_at "sx"
  refine ok_for (fun j s => ∃ e3, s = ⟨[some (SV.val (Rt c os)), some (SV.val (.int a)), some (SV.val (optV (go (os.take j) a))), e3], st⟩) ⟨none, rfl⟩ ?_ ?_
  · rintro j x s hx ⟨e3, rfl⟩
    rw [List.getElem?_map] at hx
    obtain ⟨o, ho, rfl⟩ := Option.map_eq_some_iff.mp hx
    have hm := List.mem_of_getElem? ho
    have e1 : os.take (j + 1) = os.take j ++ [o] := by rw [List.take_add_one, ho]; rfl
    rw [e1, go_snoc]
    cases hg : go (os.take j) a with
    | none =>
      simp only [optV]
      walk_at "st"
      exact ⟨_, rfl⟩
    | some b =>
      have hb := go_le2 (os := os.take j) (fun p hp => h p (List.mem_of_mem_take hp)) (by rw [List.length_take]; omega) hg ha.1
      simp only [optV]
      walk_at "st"
      rw [o_resultU rfl (hu o hm)]
      walk_at "st"
      rw [eq_Office_result (h o hm) (by omega)]
      walk_at "st"
      exact ⟨_, rfl⟩
  · rintro s ⟨e3, rfl⟩
    rw [List.length_map, List.take_length]
    walk_at "st"
set_option maxHeartbeats 4000000 in
theorem eq_is_worse {n : Nat} {c : Str} {os ps : List OfV} {a : Int} {st : List MO} (h : ∀ o ∈ os, o.Wf) (hu : ∀ o ∈ os, o.most = none) (hl : os.length ≤ 2) (h' : ∀ o ∈ ps, o.Wf) (hu' : ∀ o ∈ ps, o.most = none) (hl' : ps.length ≤ 2) (ha : 0 ≤ a ∧ a ≤ 1000000000000000000) :
    m_is_worse n [Rt c os, Rt c ps, .int a] st = .ok (.bl (worse (go os a) (go ps a))) st := by
  refine OkFx.eq ?_
  unfold m_is_worse
  refine okF_fn rfl ?_
  unfold b_is_worse
  refine ok_seq ?_
  walk_at "sx"
  rw [r_result rfl]
  walk_at "sx"
  rw [eq_Route_result h hu hl ha]
  walk_at "sx"
  rw [r_result rfl]
  walk_at "sx"
  rw [eq_Route_result h' hu' hl' ha]
  walk_at "sx"
  cases go os a <;> cases go ps a <;> (simp only [optV, worse]; walk_at "st"; try trivial)
/-! ### first_worse -/
def lcmI (a b : Int) : Int := (Nat.lcm a.toNat b.toNat : Nat)
theorem eq_commonI {n : Nat} {a b : Int} {st : List MO} (hn : 100000000 < n) (ha : 1 ≤ a ∧ a ≤ 81) (hb : 1 ≤ b ∧ b ≤ 81) : m_common_multiple n [.int a, .int b] st = .ok (.int (lcmI a b)) st := by
  obtain ⟨x, rfl⟩ := Int.eq_ofNat_of_zero_le (show 0 ≤ a by omega)
  obtain ⟨y, rfl⟩ := Int.eq_ofNat_of_zero_le (show 0 ≤ b by omega)
  exact eq_common hn (by omega) (by omega)
theorem lcmI_facts {a b : Int} (ha : 1 ≤ a ∧ a ≤ 81) (hb : 1 ≤ b ∧ b ≤ 81) : (0 < lcmI a b ∧ lcmI a b ≤ 6561) ∧ (∃ k, 0 ≤ k ∧ lcmI a b = a * k) ∧ ∃ k, 0 ≤ k ∧ lcmI a b = b * k := by
  obtain ⟨x, rfl⟩ := Int.eq_ofNat_of_zero_le (show 0 ≤ a by omega)
  obtain ⟨y, rfl⟩ := Int.eq_ofNat_of_zero_le (show 0 ≤ b by omega)
  have e : lcmI (x : Int) (y : Int) = ((Nat.lcm x y : Nat) : Int) := rfl
  rw [e]
  have h1 := Nat.lcm_pos (m := x) (n := y) (by omega) (by omega)
  have h2 : Nat.lcm x y ≤ x * y := Nat.le_of_dvd (Nat.mul_pos (by omega) (by omega)) (Nat.lcm_dvd_mul x y)
  have h3 : x * y ≤ 81 * 81 := Nat.mul_le_mul (by omega) (by omega)
  obtain ⟨k, hk⟩ := Nat.dvd_lcm_left x y
  obtain ⟨l, hl⟩ := Nat.dvd_lcm_right x y
  refine ⟨by omega, ⟨k, by omega, ?_⟩, l, by omega, ?_⟩
  · rw [hk]; exact Int.natCast_mul x k
  · rw [hl]; exact Int.natCast_mul y l
/-- routes that can be compared -/
structure Two (c : Str) (os ps : List OfV) : Prop where
  r1 : RtOk c os
  r2 : RtOk c ps
  e : endO c os = endO c ps
  u1 : ∀ o ∈ os, o.most = none
  u2 : ∀ o ∈ ps, o.most = none
  l1 : os.length ≤ 2
  l2 : ps.length ≤ 2
theorem Two.swap {c : Str} {os ps : List OfV} (h : Two c os ps) : Two c ps os := ⟨h.r2, h.r1, h.e.symm, h.u2, h.u1, h.l2, h.l1⟩
abbrev bgn (os ps : List OfV) : Int := max (reg os) (reg ps)
abbrev wid (os ps : List OfV) : Int := lcmI (gQ os) (gQ ps)
theorem Two.cmp {c : Str} {os ps : List OfV} (h : Two c os ps) : Cmp os ps (bgn os ps) (wid os ps) := by
  have f := lcmI_facts (g_le h.r1.wf h.l1).1 (g_le h.r2.wf h.l2).1
  exact ⟨h.r1.wf, h.r2.wf, Int.le_max_left _ _, Int.le_max_right _ _, f.1.1, f.2.1, f.2.2⟩
theorem Two.bd {c : Str} {os ps : List OfV} (h : Two c os ps) : (0 ≤ bgn os ps ∧ bgn os ps ≤ 10000) ∧ 0 < wid os ps ∧ wid os ps ≤ 6561 := by
  have f := lcmI_facts (g_le h.r1.wf h.l1).1 (g_le h.r2.wf h.l2).1
  have r1 := reg_le h.r1.wf h.l1
  have r2 := reg_le h.r2.wf h.l2
  exact ⟨⟨by unfold bgn; omega, by unfold bgn; omega⟩, f.1⟩
abbrev wf2 (os ps : List OfV) (a : Int) : Bool := worse (go os a) (go ps a)
def ldF (os ps : List OfV) (B k : Int) : Int := (go os (B + k)).getD 0 - (go ps (B + k)).getD 0
def mF (os ps : List OfV) (B w D k : Int) : Int := B + k + (ldF os ps B k / D + 1) * w
theorem Cmp.ex {os ps : List OfV} {B w : Int} (c : Cmp os ps B w) {a : Int} (h : B ≤ a) : ∃ x y, go os a = some x ∧ go ps a = some y := by
  obtain ⟨x, f, _⟩ := go_far (a := a) (j := 0) c.ow c.ob c.od h (Int.le_refl _)
  obtain ⟨y, g, _⟩ := go_far (a := a) (j := 0) c.pw c.pb c.pd h (Int.le_refl _)
  exact ⟨x, y, f, g⟩
theorem fw_min {os ps : List OfV} {B w : Int} (c : Cmp os ps B w) (hB : 0 ≤ B) (h0 : ∀ a, 0 ≤ a → a < B + w → wf2 os ps a = false) (hd : 0 < riseP ps w - riseP os w) :
    ∃ m, minI ((List.range w.toNat).map fun k : Nat => mF os ps B w (riseP ps w - riseP os w) (k : Int)) = some m ∧ Least (wf2 os ps) (some m) ∧ m ≤ mF os ps B w (riseP ps w - riseP os w) 0 := by
  have w0 := c.w0
  obtain ⟨m, hm⟩ := minI_some (xs := (List.range w.toNat).map fun k : Nat => mF os ps B w (riseP ps w - riseP os w) (k : Int)) (by
    intro e
    have := congrArg List.length e
    simp at this
    omega)
  obtain ⟨h1, h2⟩ := minI_le hm
  refine ⟨m, hm, least_min c hB h0 hd (ldF os ps B) (fun k hk0 hk1 => ?_) ?_ (fun k hk0 hk1 => ?_), h2 _ (List.mem_map.mpr ⟨0, List.mem_range.mpr (by omega), rfl⟩)⟩
  · obtain ⟨x, y, f, g⟩ := c.ex (a := B + k) (by omega)
    exact ⟨x, y, f, g, by unfold ldF; rw [f, g]; rfl⟩
  · obtain ⟨k, hk, rfl⟩ := List.mem_map.mp h1
    have := List.mem_range.mp hk
    exact ⟨k, by omega, by omega, rfl⟩
  · obtain ⟨j, rfl⟩ := Int.eq_ofNat_of_zero_le hk0
    exact h2 _ (List.mem_map.mpr ⟨j, List.mem_range.mpr (by omega), rfl⟩)
theorem ldF_bd {os ps : List OfV} {B w k : Int} (c : Cmp os ps B w) (hl1 : os.length ≤ 2) (hl2 : ps.length ≤ 2) (hk : 0 ≤ k) (hB : 0 ≤ B) (hb : B + k ≤ 20000) : -2000000 ≤ ldF os ps B k ∧ ldF os ps B k ≤ 2000000 := by
  obtain ⟨x, y, f, g⟩ := c.ex (a := B + k) (by omega)
  have b1 := go_le2 c.ow hl1 f (by omega)
  have b2 := go_le2 c.pw hl2 g (by omega)
  unfold ldF
  rw [f, g]
  show -2000000 ≤ x - y ∧ x - y ≤ 2000000
  omega
theorem div_bd {x d : Int} (h : -2000000 ≤ x ∧ x ≤ 2000000) (hd : 0 < d) : -2000001 ≤ x / d ∧ x / d ≤ 2000001 := by
  constructor
  · have : -2000001 * d ≤ x := by
      have := Int.mul_le_mul_of_nonneg_left (show (1:Int) ≤ d by omega) (show (0:Int) ≤ 2000001 by decide)
      omega
    exact Int.le_ediv_of_mul_le hd this
  · have : x < (2000001 + 1) * d := by
      have := Int.mul_le_mul_of_nonneg_left (show (1:Int) ≤ d by omega) (show (0:Int) ≤ 2000002 by decide)
      omega
    have := Int.ediv_lt_of_lt_mul hd this
    omega
theorem rise_bd {os : List OfV} {w : Int} (h : ∀ o ∈ os, o.Wf) (hl : os.length ≤ 2) (hw : 0 ≤ w ∧ w ≤ 6561) : 0 ≤ riseP os w ∧ riseP os w ≤ 1000000 := by
  have g := g_le h hl
  have k := Int.mul_le_mul hw.2 g.2.2 (by omega) (by decide)
  have k0 := Int.mul_nonneg hw.1 (show 0 ≤ gP os by omega)
  unfold riseP
  have := Int.ediv_le_self (gQ os) k0
  exact ⟨Int.ediv_nonneg k0 (by omega), by omega⟩
local macro_rules | `(tactic| walk_at "st") => `(tactic| try simp only [ok_ret, ok_bnd, ok_bin, ok_var, varK_val, varK_own, pv_val, pv_own, ok_asB, asBK_bl, ok_andT, ok_orT, ok_notT, ok_iteT, ok_andV, ok_notV, blK_bl,
  ok_argN, ok_argC, ok_fits, ok_tupM, ok_lstM, ok_parN, ok_parS, intK_int, ok_slM, ok_joinM, strK_str, ok_itemsM, ok_rngM, ok_seqM, seqK_nx, seqK_rt, seqK_bk, seqK_ct, ok_ifM, ok_retM, ok_dropM, ok_skipM, ok_asgM, ok_asgO, ok_par2, ok_par2VO, ok_par3,
  ok_callM, rtK_rt, rtK_nx, ok_loopM, ok_lcM, ok_dispM, ok_prsN, ok_prsC, ok_hget0, getK_some, ok_hputM, putK0, pc, pb, pl, ppb, ppl, plen, ok_add, ok_addS, ok_addT, ok_addL, ok_sub, ok_mul, ok_ixL, ok_ixT, ok_unp, unpK_tup, ok_set0, ok_setC, ok_app, flK_nx, flK_ct, flK_bk, flK_rt, sl_L, sl_T, sl_S, it_L, it_T, wip, ok_div, ok_mod, ok_pow, ok_rep, ok_ord, ok_fInt, ok_fAbs, ok_lenL, ok_lenT, ok_lenS, ok_fListL, ok_fListT, ok_fTupleL, ok_fTupleT, ok_eqI, ok_eqB, ok_eqS,
  okF_ok, okF_exc, ok_runM, ok_appA, ok_len1, ok_argS, starK_tup, starK_lst, ok_chain, isNonB_non, isNonB_int, isNonB_bl, isNonB_str, isNonB_tup, isNonB_lst, isNonB_obj, ok_isN, ok_max, ok_min, isi_int_int, isi_int_bl, isi_int_non, isi_int_str, isi_int_tup, isi_int_lst, isi_bool_int, isi_bool_bl, isi_str_str, isi_str_int, isi_str_bl, isi_str_non, isi_str_tup, isi_str_lst, isi_tuple_tup, isi_tuple_int, isi_tuple_bl, isi_tuple_non, isi_tuple_str, isi_tuple_lst,
  ok_conM, ok_fputM, fputK_new, conV_new, ok_makeM, ok_methM,
  List.map_cons, List.map_nil, List.replicate_succ, List.replicate_zero, List.cons_append, List.nil_append, List.append_nil, List.getElem?_cons_zero, List.getElem?_cons_succ, List.set_cons_zero, List.set_cons_succ, Nat.reduceSub, decide_eq_true_eq, if_true, if_false, Bool.false_eq_true, Bool.not_true, Bool.not_false, beq_self_eq_true, Bool.true_eq_false, bne_self_eq_false, Bool.bne_true, Bool.bne_false, Nat.zero_add, Nat.reduceAdd, true_and, and_true, reduceCtorEq, List.length_cons, List.length_nil, f_rate, f_fee, f_least, g_start, g_end, g_offs, p_rate, p_fee, p_least, p_most, p_start, p_end, p_offices, a20, a21, ok_rngM2])
local macro_rules | `(tactic| walk_at "sx") => `(tactic| try simp only [ok_ret, ok_bnd, ok_bin, ok_var, varK_val, varK_own, pv_val, pv_own, ok_asB, asBK_bl, ok_andT, ok_orT, ok_notT, ok_iteT, ok_andV, ok_notV, blK_bl,
  ok_argN, ok_argC, ok_fits, ok_tupM, ok_lstM, ok_parN, ok_parS, intK_int, ok_slM, ok_joinM, strK_str, ok_itemsM, ok_rngM, seqK_nx, seqK_rt, seqK_bk, seqK_ct, ok_ifM, ok_retM, ok_dropM, ok_skipM, ok_asgM, ok_asgO, ok_par2, ok_par2VO, ok_par3,
  ok_callM, rtK_rt, rtK_nx, ok_loopM, ok_lcM, ok_dispM, ok_prsN, ok_prsC, ok_hget0, getK_some, ok_hputM, putK0, pc, pb, pl, ppb, ppl, plen, ok_add, ok_addS, ok_addT, ok_addL, ok_sub, ok_mul, ok_ixL, ok_ixT, ok_unp, unpK_tup, ok_set0, ok_setC, ok_app, flK_nx, flK_ct, flK_bk, flK_rt, sl_L, sl_T, sl_S, it_L, it_T, wip, ok_div, ok_mod, ok_pow, ok_rep, ok_ord, ok_fInt, ok_fAbs, ok_lenL, ok_lenT, ok_lenS, ok_fListL, ok_fListT, ok_fTupleL, ok_fTupleT, ok_eqI, ok_eqB, ok_eqS,
  okF_ok, okF_exc, ok_runM, ok_appA, ok_len1, ok_argS, starK_tup, starK_lst, ok_chain, isNonB_non, isNonB_int, isNonB_bl, isNonB_str, isNonB_tup, isNonB_lst, isNonB_obj, ok_isN, ok_max, ok_min, isi_int_int, isi_int_bl, isi_int_non, isi_int_str, isi_int_tup, isi_int_lst, isi_bool_int, isi_bool_bl, isi_str_str, isi_str_int, isi_str_bl, isi_str_non, isi_str_tup, isi_str_lst, isi_tuple_tup, isi_tuple_int, isi_tuple_bl, isi_tuple_non, isi_tuple_str, isi_tuple_lst,
  ok_conM, ok_fputM, fputK_new, conV_new, ok_makeM, ok_methM,
  List.map_cons, List.map_nil, List.replicate_succ, List.replicate_zero, List.cons_append, List.nil_append, List.append_nil, List.getElem?_cons_zero, List.getElem?_cons_succ, List.set_cons_zero, List.set_cons_succ, Nat.reduceSub, decide_eq_true_eq, if_true, if_false, Bool.false_eq_true, Bool.not_true, Bool.not_false, beq_self_eq_true, Bool.true_eq_false, bne_self_eq_false, Bool.bne_true, Bool.bne_false, Nat.zero_add, Nat.reduceAdd, true_and, and_true, reduceCtorEq, List.length_cons, List.length_nil, f_rate, f_fee, f_least, g_start, g_end, g_offs, p_rate, p_fee, p_least, p_most, p_start, p_end, p_offices, a20, a21, ok_rngM2])
set_option maxHeartbeats 8000000 in
theorem sp_first_worse {n : Nat} {c : Str} {os ps : List OfV} {st : List MO} {Q : PV → List MO → Prop} (hn : 100000000 < n) (h : Two c os ps) (hq : ∀ t, Least (wf2 os ps) t → (∀ m, t = some m → m < 1000000000000) → Q (optV t) st) : OkF (m_first_worse n [Rt c os, Rt c ps] st) Q := by
  have hz : sizeLine = 16777216 := sizeLine_eq
  have cm := h.cmp
  have bd := h.bd
  have g1 := g_le h.r1.wf h.l1
  have g2 := g_le h.r2.wf h.l2
  unfold m_first_worse
  refine okF_fn rfl ?_
  unfold b_first_worse
  refine ok_seq ?_
  walk_at "sx"
  rw [eq_need_alike h.e h.u1 h.u2 h.l1 h.l2]
  walk_at "sx"
  refine ok_seq ?_
  walk_at "sx"
  rw [eq_regular h.r1.wf h.l1]
  walk_at "sx"
  rw [eq_regular h.r2.wf h.l2]
  walk_at "sx"
  rw [eq_divisor h.r1.wf h.l1]
  walk_at "sx"
  rw [eq_divisor h.r2.wf h.l2]
  walk_at "sx"
  rw [eq_commonI hn g1.1 g2.1]
  walk_at "sx"
  refine ok_seq ?_
  walk_at "sx"
  rw [show max (reg os) (reg ps) = bgn os ps from rfl, show lcmI (gQ os) (gQ ps) = wid os ps from rfl]
  generalize bgn os ps = B at *
  generalize wid os ps = w at *
  refine ⟨_, rngP_nat (by omega) (by omega), ?_⟩
  refine ok_for (fun j s => (∃ e4, s = ⟨[some (SV.val (Rt c os)), some (SV.val (Rt c ps)), some (SV.val (.int B)), some (SV.val (.int w)), e4, none, none, none], st⟩) ∧ ∀ a, 0 ≤ a → a < (j : Int) → wf2 os ps a = false) ⟨⟨none, rfl⟩, fun a h0 h1 => by omega⟩ ?_ ?_
  · rintro j x s hx ⟨⟨e4, rfl⟩, hj⟩
    obtain ⟨rfl, hjl⟩ := rng_get hx
    walk_at "st"
    rw [eq_is_worse h.r1.wf h.u1 h.l1 h.r2.wf h.u2 h.l2 (by omega)]
    walk_at "st"
    cases hw : worse (go os (j : Int)) (go ps (j : Int)) with
    | true =>
      walk_at "st"
      refine hq (some (j : Int)) ⟨fun a e => ?_, fun e => nomatch e⟩ (fun m e => by cases e; omega)
      cases e
      exact ⟨by omega, hw, hj⟩
    | false =>
      walk_at "st"
      refine ⟨⟨_, rfl⟩, fun a h0 h1 => ?_⟩
      by_cases e : a = (j : Int)
      · rw [e]; exact hw
      · exact hj a h0 (by omega)
  rintro s ⟨⟨e4, rfl⟩, h0⟩
  rw [rng_len] at h0
  have h0 : ∀ a, 0 ≤ a → a < B + w → wf2 os ps a = false := fun a z1 z2 => h0 a z1 (by omega)
  walk_at "sx"
  refine ok_seq ?_
  walk_at "sx"
  rw [eq_rise h.r2.wf h.l2 (by omega)]
  walk_at "sx"
  rw [eq_rise h.r1.wf h.l1 (by omega)]
  walk_at "sx"
  have q1 := rise_bd h.r1.wf h.l1 (w := w) (by omega)
  have q2 := rise_bd h.r2.wf h.l2 (w := w) (by omega)
  refine ok_seq ?_
  walk_at "sx"
  by_cases hd : riseP ps w - riseP os w ≤ 0
  · rw [if_pos hd]
    walk_at "sx"
    exact hq none (never cm bd.1.1 h0 hd) (fun m e => nomatch e)
  rw [if_neg hd]
  walk_at "sx"
  have fm := fw_min cm bd.1.1 h0 (by omega)
  generalize hD : riseP ps w - riseP os w = D at *
  refine ok_seq ?_
  walk_at "sx"
  refine ⟨by omega, ?_⟩
  refine ok_seq ?_
  walk_at "sx"
  walk_at "sx"
  refine ⟨_, rngP2_nat (by omega) (by omega) (by omega) (by omega), ?_⟩
  rw [show B + w - B = w by omega]
  refine ok_for (fun j s => ∃ e4 e7, s = ⟨[some (SV.val (Rt c os)), some (SV.val (Rt c ps)), some (SV.val (.int B)), some (SV.val (.int w)), e4, some (SV.val (.int D)), some (SV.own (((List.range j).map fun k : Nat => mF os ps B w D (k : Int)).map .int)), e7], st⟩) ⟨e4, none, rfl⟩ ?_ ?_
  · rintro j x s hx ⟨e4, e7, rfl⟩
    rw [List.getElem?_map] at hx
    obtain ⟨i, hi, rfl⟩ := Option.map_eq_some_iff.mp hx
    obtain ⟨hjl, hi⟩ := List.getElem?_eq_some_iff.mp hi
    rw [List.getElem_range] at hi
    subst hi
    rw [List.length_range] at hjl
    obtain ⟨x, y, f, g⟩ := cm.ex (a := B + (j : Int)) (by omega)
    have hld : ldF os ps B (j : Int) = x - y := by unfold ldF; rw [f, g]; rfl
    have lb := ldF_bd cm h.l1 h.l2 (k := (j : Int)) (by omega) bd.1.1 (by omega)
    rw [hld] at lb
    have db := div_bd lb (show 0 < D by omega)
    refine ok_seq ?_
    walk_at "sx"
    rw [r_result rfl]
    walk_at "sx"
    rw [eq_Route_result h.r1.wf h.u1 h.l1 (by omega), f]
    walk_at "sx"
    rw [r_result rfl]
    walk_at "sx"
    rw [eq_Route_result h.r2.wf h.u2 h.l2 (by omega), g]
    simp only [optV]
    walk_at "sx"
    refine ⟨⟨_, rfl⟩, cdiv100 (by omega) (by omega), cmul100 (by omega) (by omega), ?_⟩
    rw [ok_push rfl (by simp; omega)]
    refine ⟨some (SV.val (.int (B + (j : Int)))), some (SV.val (.int (x - y))), ?_⟩
    rw [List.range_succ, List.map_append, List.map_append]
    simp only [List.map_cons, List.map_nil, mF, hld]
    rfl
  · rintro s ⟨e4, e7, rfl⟩
    rw [List.length_map, List.length_range]
    walk_at "st"
    obtain ⟨m, m1, m2, m3⟩ := fm
    rw [ok_minL]
    refine ⟨m, m1, ?_⟩
    walk_at "st"
    refine hq _ m2 (fun m' e => ?_)
    cases e
    have lb := ldF_bd cm h.l1 h.l2 (k := 0) (by omega) bd.1.1 (by omega)
    have db := div_bd lb (show 0 < D by omega)
    have k1 := Int.mul_le_mul_of_nonneg_right (show ldF os ps B 0 / D + 1 ≤ 2000002 by omega) (show 0 ≤ w by omega)
    unfold mF at m3
    omega
end Lw
/-! Ca: an office is drawn; small helps. -/
namespace Lw
open PySem Dn
open L2 hiding bin
local macro_rules | `(tactic| walk_at "st") => `(tactic| try simp only [ok_ret, ok_bnd, ok_bin, ok_var, varK_val, varK_own, pv_val, pv_own, ok_asB, asBK_bl, ok_andT, ok_orT, ok_notT, ok_iteT, ok_andV, ok_notV, blK_bl,
  ok_argN, ok_argC, ok_fits, ok_tupM, ok_lstM, ok_parN, ok_parS, intK_int, ok_slM, ok_joinM, strK_str, ok_itemsM, ok_rngM, ok_seqM, seqK_nx, seqK_rt, seqK_bk, seqK_ct, ok_ifM, ok_retM, ok_dropM, ok_skipM, ok_asgM, ok_asgO, ok_par2, ok_par2VO, ok_par3,
  ok_callM, rtK_rt, rtK_nx, ok_loopM, ok_lcM, ok_dispM, ok_prsN, ok_prsC, ok_hget0, getK_some, ok_hputM, putK0, pc, pb, pl, ppb, ppl, plen, ok_add, ok_addS, ok_addT, ok_addL, ok_sub, ok_mul, ok_ixL, ok_ixT, ok_unp, unpK_tup, ok_set0, ok_setC, ok_app, flK_nx, flK_ct, flK_bk, flK_rt, sl_L, sl_T, sl_S, it_L, it_T, wip, ok_div, ok_mod, ok_pow, ok_rep, ok_ord, ok_fInt, ok_fAbs, ok_lenL, ok_lenT, ok_lenS, ok_fListL, ok_fListT, ok_fTupleL, ok_fTupleT, ok_eqI, ok_eqB, ok_eqS,
  okF_ok, okF_exc, ok_runM, ok_appA, ok_len1, ok_argS, starK_tup, starK_lst, ok_chain, isNonB_non, isNonB_int, isNonB_bl, isNonB_str, isNonB_tup, isNonB_lst, isNonB_obj, ok_isN, ok_max, ok_min, isi_int_int, isi_int_bl, isi_int_non, isi_int_str, isi_int_tup, isi_int_lst, isi_bool_int, isi_bool_bl, isi_str_str, isi_str_int, isi_str_bl, isi_str_non, isi_str_tup, isi_str_lst, isi_tuple_tup, isi_tuple_int, isi_tuple_bl, isi_tuple_non, isi_tuple_str, isi_tuple_lst,
  ok_conM, ok_fputM, fputK_new, conV_new, ok_makeM, ok_methM,
  List.map_cons, List.map_nil, List.replicate_succ, List.replicate_zero, List.cons_append, List.nil_append, List.append_nil, List.getElem?_cons_zero, List.getElem?_cons_succ, List.set_cons_zero, List.set_cons_succ, Nat.reduceSub, decide_eq_true_eq, if_true, if_false, Bool.false_eq_true, Bool.not_true, Bool.not_false, beq_self_eq_true, Bool.true_eq_false, bne_self_eq_false, Bool.bne_true, Bool.bne_false, Nat.zero_add, Nat.reduceAdd, true_and, and_true, reduceCtorEq, List.length_cons, List.length_nil])
local macro_rules | `(tactic| walk_at "sx") => `(tactic| try simp only [ok_ret, ok_bnd, ok_bin, ok_var, varK_val, varK_own, pv_val, pv_own, ok_asB, asBK_bl, ok_andT, ok_orT, ok_notT, ok_iteT, ok_andV, ok_notV, blK_bl,
  ok_argN, ok_argC, ok_fits, ok_tupM, ok_lstM, ok_parN, ok_parS, intK_int, ok_slM, ok_joinM, strK_str, ok_itemsM, ok_rngM, seqK_nx, seqK_rt, seqK_bk, seqK_ct, ok_ifM, ok_retM, ok_dropM, ok_skipM, ok_asgM, ok_asgO, ok_par2, ok_par2VO, ok_par3,
  ok_callM, rtK_rt, rtK_nx, ok_loopM, ok_lcM, ok_dispM, ok_prsN, ok_prsC, ok_hget0, getK_some, ok_hputM, putK0, pc, pb, pl, ppb, ppl, plen, ok_add, ok_addS, ok_addT, ok_addL, ok_sub, ok_mul, ok_ixL, ok_ixT, ok_unp, unpK_tup, ok_set0, ok_setC, ok_app, flK_nx, flK_ct, flK_bk, flK_rt, sl_L, sl_T, sl_S, it_L, it_T, wip, ok_div, ok_mod, ok_pow, ok_rep, ok_ord, ok_fInt, ok_fAbs, ok_lenL, ok_lenT, ok_lenS, ok_fListL, ok_fListT, ok_fTupleL, ok_fTupleT, ok_eqI, ok_eqB, ok_eqS,
  okF_ok, okF_exc, ok_runM, ok_appA, ok_len1, ok_argS, starK_tup, starK_lst, ok_chain, isNonB_non, isNonB_int, isNonB_bl, isNonB_str, isNonB_tup, isNonB_lst, isNonB_obj, ok_isN, ok_max, ok_min, isi_int_int, isi_int_bl, isi_int_non, isi_int_str, isi_int_tup, isi_int_lst, isi_bool_int, isi_bool_bl, isi_str_str, isi_str_int, isi_str_bl, isi_str_non, isi_str_tup, isi_str_lst, isi_tuple_tup, isi_tuple_int, isi_tuple_bl, isi_tuple_non, isi_tuple_str, isi_tuple_lst,
  ok_conM, ok_fputM, fputK_new, conV_new, ok_makeM, ok_methM,
  List.map_cons, List.map_nil, List.replicate_succ, List.replicate_zero, List.cons_append, List.nil_append, List.append_nil, List.getElem?_cons_zero, List.getElem?_cons_succ, List.set_cons_zero, List.set_cons_succ, Nat.reduceSub, decide_eq_true_eq, if_true, if_false, Bool.false_eq_true, Bool.not_true, Bool.not_false, beq_self_eq_true, Bool.true_eq_false, bne_self_eq_false, Bool.bne_true, Bool.bne_false, Nat.zero_add, Nat.reduceAdd, true_and, and_true, reduceCtorEq, List.length_cons, List.length_nil])
theorem mem_ints {v : PV} {xs : List Int} {lo hi : Int} (h : v ∈ xs.map PV.int) (hb : ∀ x ∈ xs, lo ≤ x ∧ x ≤ hi) : ∃ i : Int, v = .int i ∧ lo ≤ i ∧ i ≤ hi := by
  obtain ⟨i, hi', rfl⟩ := List.mem_map.mp h
  exact ⟨i, rfl, hb i hi'⟩
theorem pick_ints {n : Nat} {B lo hi : Int} {cells : List Int} {g st : List MO} {xs : List Int} {vs : List PV} {Q : PV → List MO → Prop} (hbt : Bt cells) (hp : Pn cells B g st) (hx : 0 < xs.length ∧ xs.length ≤ 1000000) (hB : B < 1000000000) (e : vs = xs.map .int)
    (hb : ∀ x ∈ xs, lo ≤ x ∧ x ≤ hi) (h : ∀ (i : Int) st', lo ≤ i → i ≤ hi → Pn cells (B + 1) g st' → Q (.int i) st') : OkF (m_law_pick n [.hnd 0, .lst vs] st) Q := by
  subst e
  refine sp_pickL hbt hp (by simpa using hx) hB fun v st' hv hp' => ?_
  obtain ⟨i, rfl, h1, h2⟩ := mem_ints hv hb
  exact h i st' h1 h2 hp'
theorem in4 {a b c d lo hi : Int} (h1 : lo ≤ a ∧ a ≤ hi) (h2 : lo ≤ b ∧ b ≤ hi) (h3 : lo ≤ c ∧ c ≤ hi) (h4 : lo ≤ d ∧ d ≤ hi) : ∀ x ∈ [a, b, c, d], lo ≤ x ∧ x ≤ hi := fun x hx => by
  simp only [List.mem_cons, List.not_mem_nil, or_false] at hx
  rcases hx with rfl | rfl | rfl | rfl <;> assumption
theorem in3 {a b c lo hi : Int} (h1 : lo ≤ a ∧ a ≤ hi) (h2 : lo ≤ b ∧ b ≤ hi) (h3 : lo ≤ c ∧ c ≤ hi) : ∀ x ∈ [a, b, c], lo ≤ x ∧ x ≤ hi := fun x hx => by
  simp only [List.mem_cons, List.not_mem_nil, or_false] at hx
  rcases hx with rfl | rfl | rfl <;> assumption
theorem in2 {a b lo hi : Int} (h1 : lo ≤ a ∧ a ≤ hi) (h2 : lo ≤ b ∧ b ≤ hi) : ∀ x ∈ [a, b], lo ≤ x ∧ x ≤ hi := fun x hx => by
  simp only [List.mem_cons, List.not_mem_nil, or_false] at hx
  rcases hx with rfl | rfl <;> assumption
set_option maxHeartbeats 4000000 in
theorem sp_part {n : Nat} {B T : Int} {cells : List Int} {g st : List MO} {nm s d : Str} {Q : PV → List MO → Prop} (hbt : Bt cells) (hp : Pn cells B g st) (hB : B < 1000000) (hT : 1 ≤ T ∧ T ≤ 9) (hn : Nm nm) (hs : Nm s) (hd : Nm d)
    (h : ∀ o st', o.nm = nm → o.src = s → o.dst = d → o.Wf → o.most = none → Pn cells (B + 20) g st' → Q (OfV.row8 o) st') : OkF (m_law_part n [.hnd 0, .str nm, .str s, .str d, .int T] st) Q := by
  have hz : sizeLine = 16777216 := sizeLine_eq
  have fin : ∀ (c f : Int) st', 0 ≤ c → c ≤ 20 → 0 ≤ f → f ≤ 1000 → Pn cells (B + 10) g st' → Okx (fun e s => False) (retM (tupM (argC (var 1) (argC (var 2) (argC (var 3) (argC (bin (ret (.int 1)) (callM m_law_draw n (argC (var 0) (argC (var 4) argN))) opAdd) (argC (bin (ret (.int 1)) (callM m_law_draw n (argC (var 0) (argC (var 4) argN))) opAdd) (argC (var 5) (argC (var 6) (argC (ret .non) argN))))))))))
      ⟨[some (SV.val (.hnd 0)), some (SV.val (.str nm)), some (SV.val (.str s)), some (SV.val (.str d)), some (SV.val (.int T)), some (SV.val (.int c)), some (SV.val (.int f))], st'⟩ (fun fl s => rtK Q s fl) := by
    intro c f st' h1 h2 h3 h4 hp'
    walk_at "st"
    refine sp_draw hbt hp' (by omega) (by omega) fun p st2 p0 p1 hp2 => ?_
    walk_at "st"
    refine sp_draw hbt hp2 (by omega) (by omega) fun q st3 q0 q1 hp3 => ?_
    walk_at "st"
    refine ⟨by omega, ?_⟩
    exact h ⟨nm, s, d, 1 + p, 1 + q, c, f, none⟩ st3 rfl rfl rfl ⟨hn, hs, hd, ⟨by show 1 ≤ 1 + p; omega, by show 1 + p ≤ 9; omega⟩, ⟨by show 1 ≤ 1 + q; omega, by show 1 + q ≤ 9; omega⟩, ⟨h1, h2⟩, ⟨h3, h4⟩, fun m e => nomatch e⟩ rfl (hp3.mono (by omega))
  unfold m_law_part
  refine okF_fn rfl ?_
  unfold b_law_part
  refine ok_seq ?_
  walk_at "sx"
  refine sp_draw hbt hp (by omega) (by omega) fun d1 st1 h10 h11 hp1 => ?_
  walk_at "sx"
  refine ⟨by omega, ?_⟩
  refine pick_ints hbt hp1 (xs := [0, 0, 1, d1]) (lo := 0) (hi := 8) (by simp) (by omega) rfl (in4 (by decide) (by decide) (by decide) (by omega)) fun c st2 c0 c1 hp2 => ?_
  walk_at "sx"
  refine ⟨cmul100 (by omega) (by omega), ?_⟩
  refine sp_draw hbt hp2 (by omega) (by omega) fun d2 st3 h20 h21 hp3 => ?_
  walk_at "sx"
  refine ⟨by omega, ?_⟩
  refine pick_ints hbt hp3 (xs := [0, 0, 1, d2]) (lo := 0) (hi := 26) (by simp) (by omega) rfl (in4 (by decide) (by decide) (by decide) (by omega)) fun f st4 f0 f1 hp4 => ?_
  walk_at "sx"
  refine ok_seq ?_
  refine Okx.imp (Q := fun (fl : Fl) (s' : S) => fl = .nx ∧ ∃ (c f : Int) (st' : List MO), s' = ⟨[some (SV.val (.hnd 0)), some (SV.val (.str nm)), some (SV.val (.str s)), some (SV.val (.str d)), some (SV.val (.int T)), some (SV.val (.int c)), some (SV.val (.int f))], st'⟩ ∧ 0 ≤ c ∧ c ≤ 20 ∧ 0 ≤ f ∧ f ≤ 1000 ∧ Pn cells (B + 10) g st') ?_ ?_
  · walk_at "sx"
    by_cases h9 : T = 9
    · rw [if_pos (by simpa using h9)]
      walk_at "sx"
      refine sp_draw hbt hp4 (by omega) (by omega) fun d3 st5 h30 h31 hp5 => ?_
      walk_at "sx"
      refine ⟨by omega, ?_⟩
      refine pick_ints hbt hp5 (xs := [c, d3]) (lo := 0) (hi := 20) (by simp) (by omega) rfl (in2 (by omega) (by omega)) fun c st6 c0 c1 hp6 => ?_
      walk_at "sx"
      refine sp_draw hbt hp6 (by omega) (by omega) fun d4 st7 h40 h41 hp7 => ?_
      walk_at "sx"
      refine ⟨by omega, ?_⟩
      refine pick_ints hbt hp7 (xs := [f, f, d4]) (lo := 0) (hi := 1000) (by simp) (by omega) rfl (in3 (by omega) (by omega) (by omega)) fun f st8 f0 f1 hp8 => ?_
      walk_at "sx"
      exact ⟨c, f, st8, rfl, c0, c1, f0, f1, hp8.mono (by omega)⟩
    · rw [if_neg (by simpa using h9)]
      walk_at "sx"
      exact ⟨c, f, st4, rfl, c0, by omega, f0, by omega, hp4.mono (by omega)⟩
  · rintro fl s' ⟨rfl, c, f, st8, rfl, c0, c1, f0, f1, hp8⟩
    simp only [seqK_nx]
    exact fin c f st8 c0 c1 f0 f1 hp8
theorem three {ss : List Str} (h : ss.length = 3) : ∃ a b c, ss = [a, b, c] := by
  rcases ss with _ | ⟨a, _ | ⟨b, _ | ⟨c, _ | ⟨d, r⟩⟩⟩⟩ <;> first | exact ⟨_, _, _, rfl⟩ | (simp at h; done)
theorem cut_mem {ns : List Int} {lo hi : Option Int} {z : Int} (h : z ∈ cutI ns lo hi) : z ∈ ns := by
  unfold cutI at h
  exact List.mem_of_mem_drop (List.mem_of_mem_take h)
end Lw
/-! Ck: never worse, as plain numbers (law k74). -/
namespace Lw
open PySem Dn
open L2 hiding bin
/-- at least as good an answer -/
def geO : Option Int → Option Int → Prop
  | _, none => True
  | some a, some b => b ≤ a
  | none, some _ => False
theorem geO_iff {x y : Option Int} : worse x y = false ↔ geO x y := by
  cases x <;> cases y <;> simp [worse, geO]
theorem geO.refl (x : Option Int) : geO x x := by cases x <;> simp [geO]
theorem geO.trans {x y z : Option Int} (h : geO x y) (k : geO y z) : geO x z := by
  cases x <;> cases y <;> cases z <;> simp [geO] at * <;> omega
/-- never worse -/
def NW (os ps : List OfV) : Prop := ∀ a, 0 ≤ a → geO (go os a) (go ps a)
theorem NW.least {os ps : List OfV} (h : NW os ps) {t : Option Int} (ht : Least (fun a => worse (go os a) (go ps a)) t) : t = none := by
  cases t with
  | none => rfl
  | some a =>
    obtain ⟨h0, h1, _⟩ := ht.some a rfl
    have := geO_iff.mpr (h a h0)
    have h1 : worse (go os a) (go ps a) = true := h1
    rw [h1] at this
    cases this
theorem NW.of {os ps : List OfV} (ht : Least (fun a => worse (go os a) (go ps a)) none) : NW os ps := fun a h0 => geO_iff.mp (ht.none rfl a h0)
theorem NW.trans {os ps qs : List OfV} (h : NW os ps) (k : NW ps qs) : NW os qs := fun a h0 => (h a h0).trans (k a h0)
/-- each part at least as good -/
structure Btr (o b : OfV) : Prop where
  p : o.p ≤ b.p
  q : b.q ≤ o.q
  fee : b.fee ≤ o.fee
  least : b.least ≤ o.least
theorem Btr.refl (o : OfV) : Btr o o := ⟨Int.le_refl _, Int.le_refl _, Int.le_refl _, Int.le_refl _⟩
theorem stp_up {o b : OfV} {a a' : Int} (w : o.Wf) (w' : b.Wf) (h : Btr o b) (h0 : 0 ≤ a) (ha : a ≤ a') : geO (stp b a') (stp o a) := by
  have hp := w.p
  have hq := w.q
  have hp' := w'.p
  have hq' := w'.q
  have h1 := h.p
  have h2 := h.q
  have h3 := h.fee
  have h4 := h.least
  unfold stp
  by_cases e : a < o.least
  · rw [if_pos e]
    by_cases e' : a' < b.least
    · rw [if_pos e']; trivial
    · rw [if_neg e']; trivial
  · rw [if_neg e, if_neg (by omega)]
    show max 0 _ ≤ max 0 _
    have k1 : a * o.p ≤ a' * b.p := Int.mul_le_mul ha h1 (by omega) (by omega)
    have k0 : 0 ≤ a * o.p := Int.mul_nonneg h0 (by omega)
    have k2 : a * o.p / o.q ≤ a' * b.p / b.q := by
      refine Int.le_ediv_of_mul_le (by omega) ?_
      have c0 : 0 ≤ a * o.p / o.q := Int.ediv_nonneg k0 (by omega)
      have c1 := Int.mul_le_mul_of_nonneg_left h2 c0
      have c2 := Int.ediv_mul_le (a * o.p) (show o.q ≠ 0 by omega)
      omega
    omega
theorem go1 {o : OfV} {a : Int} : go [o] a = stp o a := by
  show (stp o a).bind some = _
  cases stp o a <;> rfl
theorem go2 {o p : OfV} {a : Int} : go [o, p] a = (stp o a).bind (stp p) := by
  show (stp o a).bind (go [p]) = _
  congr 1
  funext b
  exact go1
theorem stp_nn {o : OfV} {a b : Int} (h : stp o a = some b) : 0 ≤ b := by
  unfold stp at h
  split at h
  · cases h
  · cases h
    omega
theorem NW.one {o b : OfV} (w : o.Wf) (w' : b.Wf) (h : Btr o b) : NW [b] [o] := fun a h0 => by
  rw [go1, go1]
  exact stp_up w w' h h0 (Int.le_refl _)
theorem NW.ahead {o b x : OfV} (h : NW [b] [o]) : NW [x, b] [x, o] := fun a h0 => by
  rw [go2, go2]
  cases e : stp x a with
  | none => exact geO.refl _
  | some c =>
    have := h c (stp_nn e)
    rw [go1, go1] at this
    exact this
theorem NW.behind {o b x : OfV} (wx : x.Wf) (h : NW [b] [o]) : NW [b, x] [o, x] := fun a h0 => by
  have := h a h0
  rw [go1, go1] at this
  rw [go2, go2]
  cases e : stp o a with
  | none => trivial
  | some c =>
    rw [e] at this
    cases e' : stp b a with
    | none => rw [e'] at this; exact this.elim
    | some d =>
      rw [e'] at this
      exact stp_up wx wx (Btr.refl x) (stp_nn e) this
end Lw
/-! Cm: law k74 answers True. -/
namespace Lw
open PySem Dn
open L2 hiding bin
local macro_rules | `(tactic| walk_at "st") => `(tactic| try simp only [ok_ret, ok_bnd, ok_bin, ok_var, varK_val, varK_own, pv_val, pv_own, ok_asB, asBK_bl, ok_andT, ok_orT, ok_notT, ok_iteT, ok_andV, ok_notV, blK_bl,
  ok_argN, ok_argC, ok_fits, ok_tupM, ok_lstM, ok_parN, ok_parS, intK_int, ok_slM, ok_joinM, strK_str, ok_itemsM, ok_rngM, ok_seqM, seqK_nx, seqK_rt, seqK_bk, seqK_ct, ok_ifM, ok_retM, ok_dropM, ok_skipM, ok_asgM, ok_asgO, ok_par2, ok_par2VO, ok_par3,
  ok_callM, rtK_rt, rtK_nx, ok_loopM, ok_lcM, ok_dispM, ok_prsN, ok_prsC, ok_hget0, getK_some, ok_hputM, putK0, pc, pb, pl, ppb, ppl, plen, ok_add, ok_addS, ok_addT, ok_addL, ok_sub, ok_mul, ok_ixL, ok_ixT, ok_unp, unpK_tup, ok_set0, ok_setC, ok_app, flK_nx, flK_ct, flK_bk, flK_rt, sl_L, sl_T, sl_S, it_L, it_T, wip, ok_div, ok_mod, ok_pow, ok_rep, ok_ord, ok_fInt, ok_fAbs, ok_lenL, ok_lenT, ok_lenS, ok_fListL, ok_fListT, ok_fTupleL, ok_fTupleT, ok_eqI, ok_eqB, ok_eqS,
  okF_ok, okF_exc, ok_runM, ok_appA, ok_len1, ok_argS, starK_tup, starK_lst, ok_chain, isNonB_non, isNonB_int, isNonB_bl, isNonB_str, isNonB_tup, isNonB_lst, isNonB_obj, ok_isN, ok_max, ok_min, isi_int_int, isi_int_bl, isi_int_non, isi_int_str, isi_int_tup, isi_int_lst, isi_bool_int, isi_bool_bl, isi_str_str, isi_str_int, isi_str_bl, isi_str_non, isi_str_tup, isi_str_lst, isi_tuple_tup, isi_tuple_int, isi_tuple_bl, isi_tuple_non, isi_tuple_str, isi_tuple_lst,
  ok_conM, ok_fputM, fputK_new, conV_new, ok_makeM, ok_methM,
  List.map_cons, List.map_nil, List.replicate_succ, List.replicate_zero, List.cons_append, List.nil_append, List.append_nil, List.getElem?_cons_zero, List.getElem?_cons_succ, List.set_cons_zero, List.set_cons_succ, Nat.reduceSub, decide_eq_true_eq, if_true, if_false, Bool.false_eq_true, Bool.not_true, Bool.not_false, beq_self_eq_true, Bool.true_eq_false, bne_self_eq_false, Bool.bne_true, Bool.bne_false, Nat.zero_add, Nat.reduceAdd, true_and, and_true, reduceCtorEq, List.length_cons, List.length_nil, r80, r81, r82, r83, r84, r85, r86, r87])
local macro_rules | `(tactic| walk_at "sx") => `(tactic| try simp only [ok_ret, ok_bnd, ok_bin, ok_var, varK_val, varK_own, pv_val, pv_own, ok_asB, asBK_bl, ok_andT, ok_orT, ok_notT, ok_iteT, ok_andV, ok_notV, blK_bl,
  ok_argN, ok_argC, ok_fits, ok_tupM, ok_lstM, ok_parN, ok_parS, intK_int, ok_slM, ok_joinM, strK_str, ok_itemsM, ok_rngM, seqK_nx, seqK_rt, seqK_bk, seqK_ct, ok_ifM, ok_retM, ok_dropM, ok_skipM, ok_asgM, ok_asgO, ok_par2, ok_par2VO, ok_par3,
  ok_callM, rtK_rt, rtK_nx, ok_loopM, ok_lcM, ok_dispM, ok_prsN, ok_prsC, ok_hget0, getK_some, ok_hputM, putK0, pc, pb, pl, ppb, ppl, plen, ok_add, ok_addS, ok_addT, ok_addL, ok_sub, ok_mul, ok_ixL, ok_ixT, ok_unp, unpK_tup, ok_set0, ok_setC, ok_app, flK_nx, flK_ct, flK_bk, flK_rt, sl_L, sl_T, sl_S, it_L, it_T, wip, ok_div, ok_mod, ok_pow, ok_rep, ok_ord, ok_fInt, ok_fAbs, ok_lenL, ok_lenT, ok_lenS, ok_fListL, ok_fListT, ok_fTupleL, ok_fTupleT, ok_eqI, ok_eqB, ok_eqS,
  okF_ok, okF_exc, ok_runM, ok_appA, ok_len1, ok_argS, starK_tup, starK_lst, ok_chain, isNonB_non, isNonB_int, isNonB_bl, isNonB_str, isNonB_tup, isNonB_lst, isNonB_obj, ok_isN, ok_max, ok_min, isi_int_int, isi_int_bl, isi_int_non, isi_int_str, isi_int_tup, isi_int_lst, isi_bool_int, isi_bool_bl, isi_str_str, isi_str_int, isi_str_bl, isi_str_non, isi_str_tup, isi_str_lst, isi_tuple_tup, isi_tuple_int, isi_tuple_bl, isi_tuple_non, isi_tuple_str, isi_tuple_lst,
  ok_conM, ok_fputM, fputK_new, conV_new, ok_makeM, ok_methM,
  List.map_cons, List.map_nil, List.replicate_succ, List.replicate_zero, List.cons_append, List.nil_append, List.append_nil, List.getElem?_cons_zero, List.getElem?_cons_succ, List.set_cons_zero, List.set_cons_succ, Nat.reduceSub, decide_eq_true_eq, if_true, if_false, Bool.false_eq_true, Bool.not_true, Bool.not_false, beq_self_eq_true, Bool.true_eq_false, bne_self_eq_false, Bool.bne_true, Bool.bne_false, Nat.zero_add, Nat.reduceAdd, true_and, and_true, reduceCtorEq, List.length_cons, List.length_nil, r80, r81, r82, r83, r84, r85, r86, r87])
set_option maxHeartbeats 4000000 in
theorem sp_bettered {n : Nat} {B : Int} {cells : List Int} {g st : List MO} {o : OfV} {l : Str} {Q : PV → List MO → Prop} (hbt : Bt cells) (hp : Pn cells B g st) (hB : B < 1000000) (hw : o.Wf) (hm : o.most = none) (hl : Nm l)
    (h : ∀ b st', b.src = o.src → b.dst = o.dst → b.Wf → b.most = none → Btr o b → Pn cells (B + 5) g st' → Q (OfV.row8 b) st') : OkF (m_law_bettered n [.hnd 0, o.row8, .str l] st) Q := by
  have hz : sizeLine = 16777216 := sizeLine_eq
  have hwp := hw.p
  have hwq := hw.q
  have hwf := hw.fee
  have hwl := hw.least
  unfold m_law_bettered
  refine okF_fn rfl ?_
  unfold b_law_bettered
  refine ok_seq ?_
  walk_at "sx"
  refine sp_draw hbt hp (by omega) (by omega) fun k st1 k0 k1 hp1 => ?_
  walk_at "sx"
  refine ok_seq ?_
  walk_at "sx"
  refine ⟨by omega, ?_⟩
  refine ok_seq ?_
  refine Okx.imp (Q := fun (fl : Fl) (s : S) => fl = .nx ∧ ∃ (b : OfV) (st' : List MO), b.nm = l ∧ b.src = o.src ∧ b.dst = o.dst ∧ b.Wf ∧ b.most = none ∧ Btr o b ∧ Pn cells (B + 5) g st' ∧ s = ⟨[some (SV.val (.hnd 0)), some (SV.val o.row8), some (SV.val (.str l)), some (SV.val (.int k)), some (SV.val (.int b.p)), some (SV.val (.int b.q)), some (SV.val (.int b.fee)), some (SV.val (.int b.least))], st'⟩) ?_ ?_
  · walk_at "st"
    by_cases h0 : k = 0
    · rw [if_pos (by simpa using h0)]
      refine sp_draw hbt hp1 (by omega) (by omega) fun r st2 r0 r1 hp2 => ?_
      walk_at "st"
      exact ⟨⟨l, o.src, o.dst, o.p, o.q, r, o.least, none⟩, st2, rfl, rfl, rfl, ⟨hl, hw.src, hw.dst, hw.p, hw.q, ⟨r0, by show r ≤ 20; omega⟩, hw.least, fun m e => nomatch e⟩, rfl, ⟨Int.le_refl _, Int.le_refl _, by show r ≤ o.fee; omega, Int.le_refl _⟩, hp2.mono (by omega), rfl⟩
    · rw [if_neg (by simpa using h0)]
      by_cases h1 : k = 1
      · rw [if_pos (by simpa using h1)]
        refine sp_draw hbt hp1 (by omega) (by omega) fun r st2 r0 r1 hp2 => ?_
        walk_at "st"
        exact ⟨⟨l, o.src, o.dst, o.p, o.q, o.fee, r, none⟩, st2, rfl, rfl, rfl, ⟨hl, hw.src, hw.dst, hw.p, hw.q, hw.fee, ⟨r0, by show r ≤ 1000; omega⟩, fun m e => nomatch e⟩, rfl, ⟨Int.le_refl _, Int.le_refl _, Int.le_refl _, by show r ≤ o.least; omega⟩, hp2.mono (by omega), rfl⟩
      · rw [if_neg (by simpa using h1)]
        by_cases h2 : k = 2
        · rw [if_pos (by simpa using h2)]
          refine sp_draw hbt hp1 (by omega) (by omega) fun r st2 r0 r1 hp2 => ?_
          walk_at "st"
          exact ⟨⟨l, o.src, o.dst, o.p + r, o.q, o.fee, o.least, none⟩, st2, rfl, rfl, rfl, ⟨hl, hw.src, hw.dst, ⟨by show 1 ≤ o.p + r; omega, by show o.p + r ≤ 9; omega⟩, hw.q, hw.fee, hw.least, fun m e => nomatch e⟩, rfl, ⟨by show o.p ≤ o.p + r; omega, Int.le_refl _, Int.le_refl _, Int.le_refl _⟩, hp2.mono (by omega), rfl⟩
        · rw [if_neg (by simpa using h2)]
          refine sp_draw hbt hp1 (by omega) (by omega) fun r st2 r0 r1 hp2 => ?_
          walk_at "st"
          exact ⟨⟨l, o.src, o.dst, o.p, 1 + r, o.fee, o.least, none⟩, st2, rfl, rfl, rfl, ⟨hl, hw.src, hw.dst, hw.p, ⟨by show 1 ≤ 1 + r; omega, by show 1 + r ≤ 9; omega⟩, hw.fee, hw.least, fun m e => nomatch e⟩, rfl, ⟨Int.le_refl _, by show 1 + r ≤ o.q; omega, Int.le_refl _, Int.le_refl _⟩, hp2.mono (by omega), rfl⟩
  rintro fl s ⟨rfl, b, st2, e1, e2, e3, hwb, hmb, hb, hp2, rfl⟩
  walk_at "st"
  refine ⟨by omega, ?_⟩
  have := h b st2 e2 e3 hwb hmb hb hp2
  unfold OfV.row8 at this
  rw [e1, e2, e3, mostV_none hmb] at this
  exact this
def relS (t u : Option Int) : Str := match t, u with
  | none, none => "same"
  | none, some _ => "better"
  | some _, none => "worse"
  | some _, some _ => "mixed"
set_option maxHeartbeats 4000000 in
theorem sp_relation {n : Nat} {c : Str} {os ps : List OfV} {st : List MO} {Q : PV → List MO → Prop} (hn : 100000000 < n) (h : Two c os ps) (hq : ∀ t u, Least (wf2 os ps) t → Least (wf2 ps os) u → Q (.str (relS t u)) st) : OkF (m_relation n [Rt c os, Rt c ps] st) Q := by
  unfold m_relation
  refine okF_fn rfl ?_
  unfold b_relation
  refine ok_seq ?_
  walk_at "sx"
  refine sp_first_worse hn h fun t ht _ => ?_
  walk_at "sx"
  refine sp_first_worse hn h.swap fun u hu _ => ?_
  have := hq t u ht hu
  walk_at "sx"
  cases t <;> cases u <;> (simp only [optV]; walk_at "st"; exact this)
theorem two1 {c d : Str} {o p : OfV} (hc : Nm c) (w : o.Wf) (w' : p.Wf) (m : o.most = none) (m' : p.most = none) (s : o.src = c) (s' : p.src = c) (e : o.dst = d) (e' : p.dst = d) : Two c [o] [p] :=
  ⟨⟨hc, fun q hq => by rw [List.mem_singleton.mp hq]; exact w, s, trivial⟩, ⟨hc, fun q hq => by rw [List.mem_singleton.mp hq]; exact w', s', trivial⟩, e.trans e'.symm, fun q hq => by rw [List.mem_singleton.mp hq]; exact m, fun q hq => by rw [List.mem_singleton.mp hq]; exact m', by simp, by simp⟩
theorem in2o {P : OfV → Prop} {o p : OfV} (h1 : P o) (h2 : P p) : ∀ q ∈ [o, p], P q := fun q hq => by
  simp only [List.mem_cons, List.not_mem_nil, or_false] at hq
  rcases hq with rfl | rfl <;> assumption
theorem mir {u v : Option Int} : valP (mergeP [] [(Sum.inr (Str.ofString "same"), PV.str (Str.ofString "same")), (Sum.inr (Str.ofString "better"), PV.str (Str.ofString "worse")), (Sum.inr (Str.ofString "worse"), PV.str (Str.ofString "better")), (Sum.inr (Str.ofString "mixed"), PV.str (Str.ofString "mixed"))]) (Sum.inr (relS u v)) = some (.str (relS v u)) := by
  cases u <;> cases v <;> rfl
theorem two2 {c d : Str} {o p o' p' : OfV} (hc : Nm c) (wo : o.Wf) (wp : p.Wf) (wo' : o'.Wf) (wp' : p'.Wf) (mo : o.most = none) (mp : p.most = none) (mo' : o'.most = none) (mp' : p'.most = none) (s : o.src = c) (j : p.src = o.dst) (e : p.dst = d) (s' : o'.src = c) (j' : p'.src = o'.dst) (e' : p'.dst = d) : Two c [o, p] [o', p'] :=
  ⟨⟨hc, in2o wo wp, s, j, trivial⟩, ⟨hc, in2o wo' wp', s', j', trivial⟩, e.trans e'.symm, in2o mo mp, in2o mo' mp', by simp, by simp⟩
theorem ok_hgetL {E : PV → S → Prop} {env : Dn.Env} {st : List MO} {kvs : List (L2.Key × PV)} {k : Str} {Q : PV → S → Prop} : Okx E (hgetP (.hnd st.length) (.str k)) ⟨env, st ++ [.dic kvs]⟩ Q ↔ ∃ d, valP kvs (.inr k) = some d ∧ Q d ⟨env, st ++ [.dic kvs]⟩ := by
  unfold Okx hgetP
  have e : (st ++ [MO.dic kvs])[st.length]? = some (.dic kvs) := by simp
  simp only [e]
  cases valP kvs (.inr k) with
  | none => simp
  | some d => simp
local macro_rules | `(tactic| walk_at "st") => `(tactic| try simp only [ok_ret, ok_bnd, ok_bin, ok_var, varK_val, varK_own, pv_val, pv_own, ok_asB, asBK_bl, ok_andT, ok_orT, ok_notT, ok_iteT, ok_andV, ok_notV, blK_bl,
  ok_argN, ok_argC, ok_fits, ok_tupM, ok_lstM, ok_parN, ok_parS, intK_int, ok_slM, ok_joinM, strK_str, ok_itemsM, ok_rngM, ok_seqM, seqK_nx, seqK_rt, seqK_bk, seqK_ct, ok_ifM, ok_retM, ok_dropM, ok_skipM, ok_asgM, ok_asgO, ok_par2, ok_par2VO, ok_par3,
  ok_callM, rtK_rt, rtK_nx, ok_loopM, ok_lcM, ok_dispM, ok_prsN, ok_prsC, ok_hget0, getK_some, ok_hputM, putK0, pc, pb, pl, ppb, ppl, plen, ok_add, ok_addS, ok_addT, ok_addL, ok_sub, ok_mul, ok_ixL, ok_ixT, ok_unp, unpK_tup, ok_set0, ok_setC, ok_app, flK_nx, flK_ct, flK_bk, flK_rt, sl_L, sl_T, sl_S, it_L, it_T, wip, ok_div, ok_mod, ok_pow, ok_rep, ok_ord, ok_fInt, ok_fAbs, ok_lenL, ok_lenT, ok_lenS, ok_fListL, ok_fListT, ok_fTupleL, ok_fTupleT, ok_eqI, ok_eqB, ok_eqS,
  okF_ok, okF_exc, ok_runM, ok_appA, ok_len1, ok_argS, starK_tup, starK_lst, ok_chain, isNonB_non, isNonB_int, isNonB_bl, isNonB_str, isNonB_tup, isNonB_lst, isNonB_obj, ok_isN, ok_max, ok_min, isi_int_int, isi_int_bl, isi_int_non, isi_int_str, isi_int_tup, isi_int_lst, isi_bool_int, isi_bool_bl, isi_str_str, isi_str_int, isi_str_bl, isi_str_non, isi_str_tup, isi_str_lst, isi_tuple_tup, isi_tuple_int, isi_tuple_bl, isi_tuple_non, isi_tuple_str, isi_tuple_lst,
  ok_conM, ok_fputM, fputK_new, conV_new, ok_makeM, ok_methM,
  List.map_cons, List.map_nil, List.replicate_succ, List.replicate_zero, List.cons_append, List.nil_append, List.append_nil, List.getElem?_cons_zero, List.getElem?_cons_succ, List.set_cons_zero, List.set_cons_succ, Nat.reduceSub, decide_eq_true_eq, if_true, if_false, Bool.false_eq_true, Bool.not_true, Bool.not_false, beq_self_eq_true, Bool.true_eq_false, bne_self_eq_false, Bool.bne_true, Bool.bne_false, Nat.zero_add, Nat.reduceAdd, true_and, and_true, reduceCtorEq, List.length_cons, List.length_nil, ok_lenScr])
local macro_rules | `(tactic| walk_at "sx") => `(tactic| try simp only [ok_ret, ok_bnd, ok_bin, ok_var, varK_val, varK_own, pv_val, pv_own, ok_asB, asBK_bl, ok_andT, ok_orT, ok_notT, ok_iteT, ok_andV, ok_notV, blK_bl,
  ok_argN, ok_argC, ok_fits, ok_tupM, ok_lstM, ok_parN, ok_parS, intK_int, ok_slM, ok_joinM, strK_str, ok_itemsM, ok_rngM, seqK_nx, seqK_rt, seqK_bk, seqK_ct, ok_ifM, ok_retM, ok_dropM, ok_skipM, ok_asgM, ok_asgO, ok_par2, ok_par2VO, ok_par3,
  ok_callM, rtK_rt, rtK_nx, ok_loopM, ok_lcM, ok_dispM, ok_prsN, ok_prsC, ok_hget0, getK_some, ok_hputM, putK0, pc, pb, pl, ppb, ppl, plen, ok_add, ok_addS, ok_addT, ok_addL, ok_sub, ok_mul, ok_ixL, ok_ixT, ok_unp, unpK_tup, ok_set0, ok_setC, ok_app, flK_nx, flK_ct, flK_bk, flK_rt, sl_L, sl_T, sl_S, it_L, it_T, wip, ok_div, ok_mod, ok_pow, ok_rep, ok_ord, ok_fInt, ok_fAbs, ok_lenL, ok_lenT, ok_lenS, ok_fListL, ok_fListT, ok_fTupleL, ok_fTupleT, ok_eqI, ok_eqB, ok_eqS,
  okF_ok, okF_exc, ok_runM, ok_appA, ok_len1, ok_argS, starK_tup, starK_lst, ok_chain, isNonB_non, isNonB_int, isNonB_bl, isNonB_str, isNonB_tup, isNonB_lst, isNonB_obj, ok_isN, ok_max, ok_min, isi_int_int, isi_int_bl, isi_int_non, isi_int_str, isi_int_tup, isi_int_lst, isi_bool_int, isi_bool_bl, isi_str_str, isi_str_int, isi_str_bl, isi_str_non, isi_str_tup, isi_str_lst, isi_tuple_tup, isi_tuple_int, isi_tuple_bl, isi_tuple_non, isi_tuple_str, isi_tuple_lst,
  ok_conM, ok_fputM, fputK_new, conV_new, ok_makeM, ok_methM,
  List.map_cons, List.map_nil, List.replicate_succ, List.replicate_zero, List.cons_append, List.nil_append, List.append_nil, List.getElem?_cons_zero, List.getElem?_cons_succ, List.set_cons_zero, List.set_cons_succ, Nat.reduceSub, decide_eq_true_eq, if_true, if_false, Bool.false_eq_true, Bool.not_true, Bool.not_false, beq_self_eq_true, Bool.true_eq_false, bne_self_eq_false, Bool.bne_true, Bool.bne_false, Nat.zero_add, Nat.reduceAdd, true_and, and_true, reduceCtorEq, List.length_cons, List.length_nil, ok_lenScr])
set_option maxHeartbeats 16000000 in
theorem law_true (ns : List Int) (hns : ns.length ≤ 63) (hb : ∀ z ∈ ns, z.natAbs.log2 ≤ 1048576) : ∃ n st, m_law n [.scr ns] [] = .ok (.bl true) st := by
  have hz : sizeLine = 16777216 := sizeLine_eq
  refine ⟨100000001, ?_⟩
  have hn : 100000000 < 100000001 := by decide
  generalize 100000001 = n at hn
  have hk : OkF (m_law n [.scr ns] []) (fun d _ => d = .bl true) := by
    unfold m_law
    refine okF_fn rfl ?_
    unfold b_law
    refine ok_seq ?_
    walk_at "sx"
    refine sp_pen ?_
    have hbt : Bt (cutI ns none (some 63)) := fun z hz => hb z (cut_mem hz)
    generalize cutI ns none (some 63) = cells at hbt
    walk_at "sx"
    refine ok_seq ?_
    walk_at "sx"
    refine ⟨_, rngP_nat (by omega) (by omega), ?_⟩
    refine ok_for (fun j s => (j : Int) ≤ 2 ∧ ∃ (es : List (Option SV)) (g st : List MO), s = ⟨[some (SV.val (.scr ns)), some (SV.val (.hnd 0))] ++ es ++ [none], st⟩ ∧ es.length = 13 ∧ Pn cells (1000 * j) g st) ⟨by omega, List.replicate 13 none, [], [.dic (pen cells 0 0)], rfl, rfl, 0, 0, rfl, by decide, by decide, by decide⟩ ?_ ?_
    · rintro j x s hx ⟨hj4, es, g, st, rfl, hes, hp⟩
      obtain ⟨rfl, hj⟩ := rng_get hx
      obtain ⟨e2, e3, e4, e5, e6, e7, e8, e9, e10, e11, e12, e13, e14, rfl⟩ : ∃ a b c d e f g h i j k l m, es = [a, b, c, d, e, f, g, h, i, j, k, l, m] := by
        match es, hes with
        | [a, b, c, d, e, f, g, h, i, j, k, l, m], _ => exact ⟨a, b, c, d, e, f, g, h, i, j, k, l, m, rfl⟩
      refine ok_seqH fun KK hKK => ?_
      walk_at "sx"
      refine sp_names hbt hp (by omega) (by omega) fun ss st1 hsl hsn hp1 => ?_
      obtain ⟨a, b, c, rfl⟩ := three hsl
      have ha := hsn a (by simp)
      have hb' := hsn b (by simp)
      have hc := hsn c (by simp)
      walk_at "sx"
      refine sp_names hbt hp1 (by omega) (by omega) fun ls st2 hll hln hp2 => ?_
      obtain ⟨l0, l1, l2, l3, l4, rfl⟩ : ∃ a b c d e, ls = [a, b, c, d, e] := by
        rcases ls with _ | ⟨a, _ | ⟨b, _ | ⟨c, _ | ⟨d, _ | ⟨e, _ | ⟨f, r⟩⟩⟩⟩⟩⟩ <;> first | exact ⟨_, _, _, _, _, rfl⟩ | (simp at hll; done)
      walk_at "sx"
      refine ⟨by omega, ?_⟩
      rw [hKK, seqK_nx]
      clear hKK KK
      refine ok_seqH fun KK hKK => ?_
      walk_at "sx"
      refine ⟨_, rfl, _, rfl, _, rfl, ?_⟩
      refine sp_part hbt hp2 (by omega) (by omega) (hln l2 (by simp)) ha hb' fun th st3 _ ts td tw tm hp3 => ?_
      walk_at "sx"
      rw [hKK, seqK_nx]
      clear hKK KK
      refine ok_seqH fun KK hKK => ?_
      walk_at "sx"
      refine ⟨_, rfl, ?_⟩
      refine sp_bettered hbt hp3 (by omega) tw tm (hln l1 (by simp)) fun s0 st4 ss0 sd0 sw0 sm0 _ hp4 => ?_
      walk_at "sx"
      rw [hKK, seqK_nx]
      clear hKK KK
      refine ok_seq ?_
      refine Okx.imp (Q := fun (fl : Fl) (s : S) => fl = .nx ∧ ∃ (se : OfV) (st5 : List MO), se.src = a ∧ se.dst = b ∧ se.Wf ∧ se.most = none ∧ Pn cells (1000 * j + 200) g st5 ∧ s = ⟨[some (SV.val (PV.scr ns)), some (SV.val (PV.hnd 0)), some (SV.val (PV.int j)), some (SV.val (PV.lst [PV.str a, PV.str b, PV.str c])), some (SV.val (PV.lst [PV.str l0, PV.str l1, PV.str l2, PV.str l3, PV.str l4])), some (SV.val th.row8), some (SV.val se.row8), e7, e8, e9, e10, e11, e12, e13, e14, none], st5⟩) ?_ ?_
      · walk_at "sx"
        refine sp_draw hbt hp4 (by omega) (by omega) fun k st5 k0 k1 hp5 => ?_
        walk_at "sx"
        by_cases hk : k = 0
        · rw [if_pos (by simpa using hk)]
          walk_at "sx"
          refine ⟨_, rfl, _, rfl, _, rfl, ?_⟩
          refine sp_part hbt hp5 (by omega) (by omega) (hln l1 (by simp)) ha hb' fun se st6 _ q1 q2 q3 q4 hp6 => ?_
          walk_at "sx"
          exact ⟨se, st6, q1, q2, q3, q4, hp6.mono (by omega), rfl⟩
        · rw [if_neg (by simpa using hk)]
          walk_at "sx"
          exact ⟨s0, st5, ss0.trans ts, sd0.trans td, sw0, sm0, hp5.mono (by omega), rfl⟩
      rintro fl s ⟨rfl, se, st5, es1, ed1, ew, em, hp5, rfl⟩
      rw [seqK_nx]
      refine ok_seqH fun KK hKK => ?_
      walk_at "sx"
      refine ⟨_, rfl, ?_⟩
      refine sp_bettered hbt hp5 (by omega) ew em (hln l0 (by simp)) fun fi st6 fs1 fd1 fw fm fb hp6 => ?_
      have fs1 := fs1.trans es1
      have fd1 := fd1.trans ed1
      walk_at "sx"
      rw [hKK, seqK_nx]
      clear hKK KK
      have r_fi : RtOk a [fi] := (two1 ha fw fw fm fm fs1 fs1 fd1 fd1).r1
      have r_se : RtOk a [se] := (two1 ha ew ew em em es1 es1 ed1 ed1).r1
      have r_th : RtOk a [th] := (two1 ha tw tw tm tm ts ts td td).r1
      refine ok_seqH fun KK hKK => ?_
      walk_at "sx"
      refine ⟨by omega, ?_⟩
      refine ok_lcGo (fun k acc s => ∃ r, acc = [Rt a [fi], Rt a [se], Rt a [th]].take k ∧ s = ⟨[some (SV.val (PV.scr ns)), some (SV.val (PV.hnd 0)), some (SV.val (PV.int j)), some (SV.val (PV.lst [PV.str a, PV.str b, PV.str c])), some (SV.val (PV.lst [PV.str l0, PV.str l1, PV.str l2, PV.str l3, PV.str l4])), some (SV.val th.row8), some (SV.val se.row8), some (SV.val fi.row8), e8, e9, e10, e11, e12, none, e14, none], st6 ++ List.replicate r .gone⟩) ⟨0, rfl, by simp [wip]⟩ ?_ ?_
      · rintro k x acc s hx ⟨r, rfl, rfl⟩
        obtain ⟨z, rfl, hz2, hk, e1⟩ : ∃ z : OfV, x = z.row8 ∧ RtOk a [z] ∧ k < 3 ∧ [Rt a [fi], Rt a [se], Rt a [th]].take (k + 1) = [Rt a [fi], Rt a [se], Rt a [th]].take k ++ [Rt a [z]] := by
          match k, hx with
          | 0, hx => exact ⟨fi, (Option.some.inj hx).symm, r_fi, by omega, rfl⟩
          | 1, hx => exact ⟨se, (Option.some.inj hx).symm, r_se, by omega, rfl⟩
          | 2, hx => exact ⟨th, (Option.some.inj hx).symm, r_th, by omega, rfl⟩
        rw [e1]
        walk_at "st"
        refine ⟨_, rfl, by omega, ?_⟩
        refine sp_joined (os := [z]) hz2 (by simp) fun r' => ?_
        walk_at "st"
        refine ⟨by rw [List.length_take]; simp; omega, r + r', ?_⟩
        simp [wip, List.append_assoc, List.replicate_append_replicate]
      rintro acc s ⟨r, rfl, rfl⟩
      have hp7 : Pn cells (1000 * j + 300) (g ++ List.replicate r .gone) (st6 ++ List.replicate r .gone) := (hp6.mono (by omega)).up
      generalize st6 ++ List.replicate r .gone = st7 at hp7
      generalize g ++ List.replicate r .gone = g7 at hp7
      rw [show [Rt a [fi], Rt a [se], Rt a [th]].take [fi.row8, se.row8, th.row8].length = [Rt a [fi], Rt a [se], Rt a [th]] from rfl]
      walk_at "sx"
      rw [hKK, seqK_nx]
      clear hKK KK
      have t01 := two1 ha fw ew fm em fs1 es1 fd1 ed1
      have t12 := two1 ha ew tw em tm es1 ts ed1 td
      have t02 := two1 ha fw tw fm tm fs1 ts fd1 td
      have n01 : NW [fi] [se] := NW.one ew fw fb
      refine ok_seqH fun KK hKK => ?_
      walk_at "sx"
      refine ⟨_, rfl, _, rfl, ?_⟩
      refine sp_first_worse hn t01 fun u hu _ => ?_
      rw [n01.least hu]
      simp only [optV]
      walk_at "sx"
      rw [hKK, seqK_nx]
      clear hKK KK
      refine ok_seqH fun KK hKK => ?_
      walk_at "sx"
      refine ⟨_, rfl, _, rfl, ?_⟩
      refine sp_first_worse hn t12 fun t ht _ => ?_
      rw [hKK, seqK_nx]
      clear hKK KK
      refine ok_seqH fun KK hKK => ?_
      refine Okx.imp (Q := fun (fl : Fl) (s : S) => fl = .nx ∧ s = ⟨[some (SV.val (PV.scr ns)), some (SV.val (PV.hnd 0)), some (SV.val (PV.int j)), some (SV.val (PV.lst [PV.str a, PV.str b, PV.str c])), some (SV.val (PV.lst [PV.str l0, PV.str l1, PV.str l2, PV.str l3, PV.str l4])), some (SV.val th.row8), some (SV.val se.row8), some (SV.val fi.row8), some (SV.val (PV.lst [Rt a [fi], Rt a [se], Rt a [th]])), some (SV.val (PV.bl (isNonB (optV t)))), e10, e11, e12, none, e14, none], st7⟩) ?_ ?_
      · cases t with
        | none =>
          simp only [optV]
          walk_at "sx"
          refine ⟨_, rfl, _, rfl, ?_⟩
          refine sp_first_worse hn t02 fun v hv _ => ?_
          rw [(n01.trans (NW.of ht)).least hv]
          simp only [optV]
          walk_at "sx"
        | some m =>
          simp only [optV]
          walk_at "sx"
      rintro fl s ⟨rfl, rfl⟩
      rw [hKK, seqK_nx]
      clear hKK KK
      refine ok_seqH fun KK hKK => ?_
      walk_at "sx"
      refine ⟨by simp, ?_⟩
      rw [hKK, seqK_nx]
      clear hKK KK
      refine ok_seqH fun KK hKK => ?_
      walk_at "sx"
      refine ⟨_, rfl, _, rfl, ?_⟩
      refine sp_relation hn t12.swap fun u1 v1 hu1 hv1 => ?_
      walk_at "sx"
      refine ⟨_, rfl, _, rfl, ?_⟩
      refine sp_relation hn t12 fun u2 v2 hu2 hv2 => ?_
      obtain rfl := hu2.uniq hv1
      obtain rfl := hv2.uniq hu1
      walk_at "sx"
      rw [ok_hgetL]
      refine ⟨_, mir, ?_⟩
      have hp8 : Pn cells (1000 * j + 300) (g7 ++ [.dic (mergeP [] [(Sum.inr (Str.ofString "same"), PV.str (Str.ofString "same")), (Sum.inr (Str.ofString "better"), PV.str (Str.ofString "worse")), (Sum.inr (Str.ofString "worse"), PV.str (Str.ofString "better")), (Sum.inr (Str.ofString "mixed"), PV.str (Str.ofString "mixed"))])]) (st7 ++ [.dic (mergeP [] [(Sum.inr (Str.ofString "same"), PV.str (Str.ofString "same")), (Sum.inr (Str.ofString "better"), PV.str (Str.ofString "worse")), (Sum.inr (Str.ofString "worse"), PV.str (Str.ofString "better")), (Sum.inr (Str.ofString "mixed"), PV.str (Str.ofString "mixed"))])]) := hp7.up
      generalize st7 ++ [_] = st8 at hp8 ⊢
      generalize g7 ++ [_] = g8 at hp8
      generalize st7.length = nd
      walk_at "sx"
      rw [hKK, seqK_nx]
      clear hKK KK
      refine ok_seqH fun KK hKK => ?_
      walk_at "sx"
      refine ⟨_, rfl, _, rfl, _, rfl, ?_⟩
      refine sp_part hbt hp8 (by omega) (by omega) (hln l3 (by simp)) hc ha fun ah st9 _ as1 ad1 aw am hp9 => ?_
      walk_at "sx"
      refine ⟨_, rfl, _, rfl, _, rfl, ?_⟩
      refine sp_part hbt hp9 (by omega) (by omega) (hln l4 (by simp)) hb' hc fun be st10 _ bs1 bd1 bw bm hp10 => ?_
      walk_at "sx"
      refine ⟨by omega, ?_⟩
      rw [hKK, seqK_nx]
      clear hKK KK
      have ta := two2 hc aw fw aw ew am fm am em as1 (fs1.trans ad1.symm) fd1 as1 (es1.trans ad1.symm) ed1
      have tb := two2 ha fw bw ew bw fm bm em bm fs1 (bs1.trans fd1.symm) bd1 es1 (bs1.trans ed1.symm) bd1
      refine ok_seqH fun KK hKK => ?_
      walk_at "sx"
      refine ⟨by omega, ?_⟩
      refine ok_lcGo (fun k acc s => ∃ r, acc = [Rt c [ah, fi], Rt c [ah, se]].take k ∧ s = ⟨[some (SV.val (PV.scr ns)), some (SV.val (PV.hnd 0)), some (SV.val (PV.int j)), some (SV.val (PV.lst [PV.str a, PV.str b, PV.str c])), some (SV.val (PV.lst [PV.str l0, PV.str l1, PV.str l2, PV.str l3, PV.str l4])), some (SV.val th.row8), some (SV.val se.row8), some (SV.val fi.row8), some (SV.val (PV.lst [Rt a [fi], Rt a [se], Rt a [th]])), some (SV.val (PV.bl (isNonB (optV t)))), some (SV.val (PV.hnd nd)), some (SV.val ah.row8), some (SV.val be.row8), none, e14, none], st10 ++ List.replicate r .gone⟩) ⟨0, rfl, by simp [wip]⟩ ?_ ?_
      · rintro k x acc s hx ⟨r, rfl, rfl⟩
        obtain ⟨z, rfl, hz2, hk, e1⟩ : ∃ z : OfV, x = z.row8 ∧ RtOk c [ah, z] ∧ k < 2 ∧ [Rt c [ah, fi], Rt c [ah, se]].take (k + 1) = [Rt c [ah, fi], Rt c [ah, se]].take k ++ [Rt c [ah, z]] := by
          match k, hx with
          | 0, hx => exact ⟨fi, (Option.some.inj hx).symm, ta.r1, by omega, rfl⟩
          | 1, hx => exact ⟨se, (Option.some.inj hx).symm, ta.r2, by omega, rfl⟩
        rw [e1]
        walk_at "st"
        refine ⟨_, rfl, by omega, ?_⟩
        refine sp_joined (os := [ah, z]) hz2 (by simp) fun r' => ?_
        walk_at "st"
        refine ⟨by rw [List.length_take]; simp; omega, r + r', ?_⟩
        simp [wip, List.append_assoc, List.replicate_append_replicate]
      rintro acc s ⟨r, rfl, rfl⟩
      have hp11 : Pn cells (1000 * j + 400) (g8 ++ List.replicate r .gone) (st10 ++ List.replicate r .gone) := (hp10.mono (by omega)).up
      generalize st10 ++ List.replicate r .gone = st11 at hp11
      generalize g8 ++ List.replicate r .gone = g11 at hp11
      rw [show [Rt c [ah, fi], Rt c [ah, se]].take [fi.row8, se.row8].length = [Rt c [ah, fi], Rt c [ah, se]] from rfl]
      walk_at "sx"
      rw [hKK, seqK_nx]
      clear hKK KK
      refine ok_seqH fun KK hKK => ?_
      walk_at "sx"
      refine ⟨by omega, ?_⟩
      refine ok_lcGo (fun k acc s => ∃ r, acc = [Rt a [fi, be], Rt a [se, be]].take k ∧ s = ⟨[some (SV.val (PV.scr ns)), some (SV.val (PV.hnd 0)), some (SV.val (PV.int j)), some (SV.val (PV.lst [PV.str a, PV.str b, PV.str c])), some (SV.val (PV.lst [PV.str l0, PV.str l1, PV.str l2, PV.str l3, PV.str l4])), some (SV.val th.row8), some (SV.val se.row8), some (SV.val fi.row8), some (SV.val (PV.lst [Rt a [fi], Rt a [se], Rt a [th]])), some (SV.val (PV.bl (isNonB (optV t)))), some (SV.val (PV.hnd nd)), some (SV.val ah.row8), some (SV.val be.row8), some (SV.val (PV.lst [Rt c [ah, fi], Rt c [ah, se]])), e14, none], st11 ++ List.replicate r .gone⟩) ⟨0, rfl, by simp [wip]⟩ ?_ ?_
      · rintro k x acc s hx ⟨r, rfl, rfl⟩
        obtain ⟨z, rfl, hz2, hk, e1⟩ : ∃ z : OfV, x = z.row8 ∧ RtOk a [z, be] ∧ k < 2 ∧ [Rt a [fi, be], Rt a [se, be]].take (k + 1) = [Rt a [fi, be], Rt a [se, be]].take k ++ [Rt a [z, be]] := by
          match k, hx with
          | 0, hx => exact ⟨fi, (Option.some.inj hx).symm, tb.r1, by omega, rfl⟩
          | 1, hx => exact ⟨se, (Option.some.inj hx).symm, tb.r2, by omega, rfl⟩
        rw [e1]
        walk_at "st"
        refine ⟨_, rfl, by omega, ?_⟩
        refine sp_joined (os := [z, be]) hz2 (by simp) fun r' => ?_
        walk_at "st"
        refine ⟨by rw [List.length_take]; simp; omega, r + r', ?_⟩
        simp [wip, List.append_assoc, List.replicate_append_replicate]
      rintro acc s ⟨r, rfl, rfl⟩
      have hp12 : Pn cells (1000 * j + 500) (g11 ++ List.replicate r .gone) (st11 ++ List.replicate r .gone) := (hp11.mono (by omega)).up
      generalize st11 ++ List.replicate r .gone = st12 at hp12
      generalize g11 ++ List.replicate r .gone = g12 at hp12
      rw [show [Rt a [fi, be], Rt a [se, be]].take [fi.row8, se.row8].length = [Rt a [fi, be], Rt a [se, be]] from rfl]
      walk_at "sx"
      rw [hKK, seqK_nx]
      clear hKK KK
      walk_at "sx"
      refine ⟨_, rfl, _, rfl, ?_⟩
      refine sp_first_worse hn ta fun u hu _ => ?_
      rw [n01.ahead.least hu]
      simp only [optV]
      walk_at "sx"
      refine ⟨_, rfl, _, rfl, ?_⟩
      refine sp_first_worse hn tb fun u hu _ => ?_
      rw [(NW.behind bw n01).least hu]
      simp only [optV]
      walk_at "sx"
      exact ⟨by omega, [some (SV.val (PV.int j)), some (SV.val (PV.lst [PV.str a, PV.str b, PV.str c])), some (SV.val (PV.lst [PV.str l0, PV.str l1, PV.str l2, PV.str l3, PV.str l4])), some (SV.val th.row8), some (SV.val se.row8), some (SV.val fi.row8), some (SV.val (PV.lst [Rt a [fi], Rt a [se], Rt a [th]])), some (SV.val (PV.bl (isNonB (optV t)))), some (SV.val (PV.hnd nd)), some (SV.val ah.row8), some (SV.val be.row8), some (SV.val (PV.lst [Rt c [ah, fi], Rt c [ah, se]])), some (SV.val (PV.lst [Rt a [fi, be], Rt a [se, be]]))], g12, st12, rfl, rfl, hp12.mono (by omega)⟩
    · rintro s ⟨_, es, g, st, rfl, hes, hp⟩
      walk_at "st"
  obtain ⟨d, st, e, rfl⟩ := hk.ex
  exact ⟨st, e⟩
end Lw
open PySem PySem.Spec PyProof.Rows
set_option maxRecDepth 100000 in
set_option maxHeartbeats 0 in
theorem PySem.Challenge.cw_rounddown_k74_whole_better_routes_chain_holds : PySem.Challenge.rw_rounddown_k74_whole_better_routes_chain.Holds := by
  w_on; o_law; k_head; (case hw => w_witness2)
  k_fill
  refine Dn.law_denB (x := "_law_script") (l := PySem.Challenge.rw_rounddown_k74_whole_better_routes_chain) (k := 9) (m := Lw.m_law) rfl rfl ⟨rfl, by decide, by decide⟩ (fun w h Y => PySem.W.kIn_of Y) ?F Lw.law_true
  case F =>
    intro w mg fa h KX G hmg
    refine' Lw.all_mk KX G hmg ?a_law_pen ?a_law_draw ?a_law_pick ?a_law_names ?a_law_part ?a_law_bettered ?a_is_name ?a_need_name ?a_Office ?a_Route ?a_CappedOffice ?a_is_integer ?a_is_rate ?a_need_integer ?a_law_one ?a_law_joined ?a_need_alike ?a_reduced ?a_times ?a_regular_from ?a_common_multiple ?a_product ?a_divisor ?a_is_worse ?a_rise ?a_first_worse ?a_relation ?a_law ?m_CappedOffice_source ?m_Office_source ?m_CappedOffice_goal ?m_Office_goal ?mi_Route ?bm_Route_add ?mi_Office ?mi_CappedOffice ?m_Route_end ?m_Route_start ?m_Route_offices ?m_CappedOffice_most ?m_Office_most ?m_Route_len ?m_CappedOffice_rate ?m_Office_rate ?m_Route_rate ?m_CappedOffice_least ?m_Office_least ?m_CappedOffice_fee ?m_Office_fee ?m_CappedOffice_result ?m_Office_result ?m_Route_result ?pr_Office_source ?pr_Office_goal ?pr_Route_end ?pr_Route_start ?pr_Route_offices ?pr_CappedOffice_most ?pr_Office_most ?pr_Office_rate ?pr_Route_rate ?pr_Office_least ?pr_Office_fee ?l_law_pen ?l_law_draw ?l_law_pick ?l_law_names ?l_law_part ?l_law_bettered ?l_is_name ?l_need_name ?l_Office_source ?l_Office_goal ?l_Route_init ?l_Route_add ?l_is_integer ?l_is_rate ?l_need_integer ?l_Office_init ?l_CappedOffice_init ?l_law_one ?l_law_joined ?l_Route_end ?l_Route_start ?l_Route_offices ?l_CappedOffice_most ?l_Office_most ?l_Route_len ?l_need_alike ?l_Office_rate ?l_reduced ?l_times ?l_Route_rate ?l_Office_least ?l_Office_fee ?l_regular_from ?l_common_multiple ?l_product ?l_divisor ?l_Office_result ?l_CappedOffice_result ?l_Route_result ?l_is_worse ?l_rise ?l_first_worse ?l_relation ?l_law ?e_CappedOffice_init ?g_CappedOffice_init ?e_CappedOffice_result ?g_CappedOffice_result ?z_list ?c_law_pen ?k_law_pen ?z_len ?z_min ?z_range ?z_int ?z_abs ?c_law_draw ?k_law_draw ?c_law_pick ?k_law_pick ?c_law_names ?k_law_names ?c_law_part ?k_law_part ?c_law_bettered ?k_law_bettered ?gs_ALPHABET ?z_all ?gi_LETTERS ?z_isinstance ?z_str ?c_is_name ?k_is_name ?c_need_name ?k_need_name ?kb_Office_NoneType ?kb_Office_bool ?kb_Office_int ?kb_Office_str ?kb_Office_tuple ?kb_Office_list ?kb_Office_dict ?cg_Route ?ch_Route ?co_Route ?cs_Route ?ia_Route ?iz_hn ?iz_htk ?io_Route ?kt_Route_Route ?kt_Route_Office ?cg_CappedOffice ?ch_CappedOffice ?co_CappedOffice ?cs_CappedOffice ?ia_CappedOffice ?io_CappedOffice ?kt_CappedOffice_CappedOffice ?kt_CappedOffice_Office ?cg_Office ?ch_Office ?co_Office ?cs_Office ?ia_Office ?io_Office ?kt_Office_Office ?z_enumerate ?na_CappedOffice_own_ends ?na_Office_own_ends ?pg_Office_source ?pt_Office_source ?c_Office_source ?k_Office_source ?pg_Office_goal ?pt_Office_goal ?c_Office_goal ?k_Office_goal ?ck_Route_LENGTH ?na_Route_own_start ?na_Route_own_end ?na_Route_own_offices ?c_Route_init ?k_Route_init ?mm_Route ?mf_Route_init ?mc_Route ?c_Route_add ?k_Route_add ?sf_Route ?mf_Route_add ?h_eq_Route_CappedOffice ?cd_CappedOffice ?h_mro_CappedOffice ?nl_add_object ?nr2_add_object ?nl_add_Office ?nr2_add_Office ?nl_add_CappedOffice ?nr2_add_CappedOffice ?h_eq_Route_Office ?cd_Office ?h_mro_Office ?z_tuple ?z_bool ?c_is_integer ?k_is_integer ?cr_Office ?cq_Office ?cv_Office_RATE ?c_is_rate ?k_is_rate ?c_need_integer ?k_need_integer ?ck_CappedOffice_FEE ?ck_Office_FEE ?ck_CappedOffice_LEAST ?ck_Office_LEAST ?na_CappedOffice_name ?na_Office_name ?na_CappedOffice_own_rate ?na_Office_own_rate ?na_CappedOffice_own_fee ?na_Office_own_fee ?na_CappedOffice_own_least ?na_Office_own_least ?c_Office_init ?k_Office_init ?mm_Office ?mf_Office_init ?mc_Office ?sr_CappedOffice_CappedOffice ?sa_CappedOffice_CappedOffice_init ?st_Office_init ?fi_Office_init ?zo_any ?ck_CappedOffice_MOST ?na_CappedOffice_own_most ?c_CappedOffice_init ?h_CappedOffice_init ?i_CappedOffice_init ?z_super ?zt_super ?mm_CappedOffice ?mf_CappedOffice_init ?mc_CappedOffice ?c_law_one ?k_law_one ?c_law_joined ?k_law_joined ?pg_Route_end ?pt_Route_end ?c_Route_end ?k_Route_end ?pg_Route_start ?pt_Route_start ?c_Route_start ?k_Route_start ?pg_Route_offices ?pt_Route_offices ?c_Route_offices ?k_Route_offices ?pg_CappedOffice_most ?pt_CappedOffice_most ?c_CappedOffice_most ?k_CappedOffice_most ?pg_Office_most ?pt_Office_most ?c_Office_most ?k_Office_most ?mf_Route_len ?c_Route_len ?k_Route_len ?gi_LONGEST_ROUTE ?c_need_alike ?k_need_alike ?pg_Office_rate ?pt_Office_rate ?c_Office_rate ?k_Office_rate ?c_reduced ?k_reduced ?c_times ?k_times ?pg_Route_rate ?pt_Route_rate ?c_Route_rate ?k_Route_rate ?pg_Office_least ?pt_Office_least ?c_Office_least ?k_Office_least ?pg_Office_fee ?pt_Office_fee ?c_Office_fee ?k_Office_fee ?z_max ?c_regular_from ?k_regular_from ?c_common_multiple ?k_common_multiple ?c_product ?k_product ?c_divisor ?k_divisor ?sa_CappedOffice_CappedOffice_result ?st_Office_result ?fi_Office_result ?c_Office_result ?k_Office_result ?mf_CappedOffice_result ?k_CappedOffice_result ?c_CappedOffice_result ?h_CappedOffice_result ?i_CappedOffice_result ?mf_Office_result ?mf_Route_result ?k_Route_result ?c_Route_result ?c_is_worse ?k_is_worse ?c_rise ?k_rise ?c_first_worse ?k_first_worse ?c_relation ?k_relation ?c_law ?k_law
    (case a_law_pen => k_is); (case a_law_draw => k_is); (case a_law_pick => k_is); (case a_law_names => k_is); (case a_law_part => k_is); (case a_law_bettered => k_is); (case a_is_name => k_is); (case a_need_name => k_is); (case a_Office => k_is); (case a_Route => k_is); (case a_CappedOffice => k_is); (case a_is_integer => k_is); (case a_is_rate => k_is); (case a_need_integer => k_is); (case a_law_one => k_is); (case a_law_joined => k_is); (case a_need_alike => k_is); (case a_reduced => k_is); (case a_times => k_is); (case a_regular_from => k_is); (case a_common_multiple => k_is); (case a_product => k_is); (case a_divisor => k_is); (case a_is_worse => k_is); (case a_rise => k_is); (case a_first_worse => k_is); (case a_relation => k_is); (case a_law => k_is); (case m_CappedOffice_source => k_is); (case m_Office_source => k_is); (case m_CappedOffice_goal => k_is); (case m_Office_goal => k_is); (case mi_Route => k_is); (case bm_Route_add => k_is); (case mi_Office => k_is); (case mi_CappedOffice => k_is); (case m_Route_end => k_is); (case m_Route_start => k_is); (case m_Route_offices => k_is); (case m_CappedOffice_most => k_is); (case m_Office_most => k_is); (case m_Route_len => k_is); (case m_CappedOffice_rate => k_is); (case m_Office_rate => k_is); (case m_Route_rate => k_is); (case m_CappedOffice_least => k_is); (case m_Office_least => k_is); (case m_CappedOffice_fee => k_is); (case m_Office_fee => k_is); (case m_CappedOffice_result => k_is); (case m_Office_result => k_is); (case m_Route_result => k_is); (case pr_Office_source => k_is); (case pr_Office_goal => k_is); (case pr_Route_end => k_is); (case pr_Route_start => k_is); (case pr_Route_offices => k_is); (case pr_CappedOffice_most => k_is); (case pr_Office_most => k_is); (case pr_Office_rate => k_is); (case pr_Route_rate => k_is); (case pr_Office_least => k_is); (case pr_Office_fee => k_is); (case l_law_pen => k_is); (case l_law_draw => k_is); (case l_law_pick => k_is); (case l_law_names => k_is); (case l_law_part => k_is); (case l_law_bettered => k_is); (case l_is_name => k_is); (case l_need_name => k_is); (case l_Office_source => k_is); (case l_Office_goal => k_is); (case l_Route_init => k_is); (case l_Route_add => k_is); (case l_is_integer => k_is); (case l_is_rate => k_is); (case l_need_integer => k_is); (case l_Office_init => k_is); (case l_CappedOffice_init => k_is); (case l_law_one => k_is); (case l_law_joined => k_is); (case l_Route_end => k_is); (case l_Route_start => k_is); (case l_Route_offices => k_is); (case l_CappedOffice_most => k_is); (case l_Office_most => k_is); (case l_Route_len => k_is); (case l_need_alike => k_is); (case l_Office_rate => k_is); (case l_reduced => k_is); (case l_times => k_is); (case l_Route_rate => k_is); (case l_Office_least => k_is); (case l_Office_fee => k_is); (case l_regular_from => k_is); (case l_common_multiple => k_is); (case l_product => k_is); (case l_divisor => k_is); (case l_Office_result => k_is); (case l_CappedOffice_result => k_is); (case l_Route_result => k_is); (case l_is_worse => k_is); (case l_rise => k_is); (case l_first_worse => k_is); (case l_relation => k_is); (case l_law => k_is); (case e_CappedOffice_init => k_is); (case g_CappedOffice_init => k_is); (case e_CappedOffice_result => k_is); (case g_CappedOffice_result => k_is); (case z_list => k_is); (case c_law_pen => k_is); (case k_law_pen => k_is); (case z_len => k_is); (case z_min => k_is); (case z_range => k_is); (case z_int => k_is); (case z_abs => k_is); (case c_law_draw => k_is); (case k_law_draw => k_is); (case c_law_pick => k_is); (case k_law_pick => k_is); (case c_law_names => k_is); (case k_law_names => k_is); (case c_law_part => k_is); (case k_law_part => k_is); (case c_law_bettered => k_is); (case k_law_bettered => k_is); (case gs_ALPHABET => k_is); (case z_all => k_is); (case gi_LETTERS => k_is); (case z_isinstance => k_is); (case z_str => k_is); (case c_is_name => k_is); (case k_is_name => k_is); (case c_need_name => k_is); (case k_need_name => k_is); (case kb_Office_NoneType => kit_is); (case kb_Office_bool => kit_is); (case kb_Office_int => kit_is); (case kb_Office_str => kit_is); (case kb_Office_tuple => kit_is); (case kb_Office_list => kit_is); (case kb_Office_dict => kit_is); (case cg_Route => k_is); (case ch_Route => k_is); (case co_Route => k_is); (case cs_Route => k_is); (case ia_Route => k_is); (case iz_hn => k_is); (case iz_htk => k_is); (case io_Route => k_is); (case kt_Route_Route => kit_is); (case kt_Route_Office => kit_is); (case cg_CappedOffice => k_is); (case ch_CappedOffice => k_is); (case co_CappedOffice => k_is); (case cs_CappedOffice => k_is); (case ia_CappedOffice => k_is); (case io_CappedOffice => k_is); (case kt_CappedOffice_CappedOffice => kit_is); (case kt_CappedOffice_Office => kit_is); (case cg_Office => k_is); (case ch_Office => k_is); (case co_Office => k_is); (case cs_Office => k_is); (case ia_Office => k_is); (case io_Office => k_is); (case kt_Office_Office => kit_is); (case z_enumerate => k_is); (case na_CappedOffice_own_ends => k_is); (case na_Office_own_ends => k_is); (case pg_Office_source => k_is); (case pt_Office_source => k_is); (case c_Office_source => k_is); (case k_Office_source => k_is); (case pg_Office_goal => k_is); (case pt_Office_goal => k_is); (case c_Office_goal => k_is); (case k_Office_goal => k_is); (case ck_Route_LENGTH => k_is); (case na_Route_own_start => k_is); (case na_Route_own_end => k_is); (case na_Route_own_offices => k_is); (case c_Route_init => k_is); (case k_Route_init => k_is); (case mm_Route => k_is); (case mf_Route_init => k_is); (case mc_Route => k_is); (case c_Route_add => k_is); (case k_Route_add => k_is); (case sf_Route => k_is); (case mf_Route_add => k_is); (case h_eq_Route_CappedOffice => rfl); (case cd_CappedOffice => k_is); (case h_mro_CappedOffice => rfl); (case nl_add_object => k_is); (case nr2_add_object => k_is); (case nl_add_Office => k_is); (case nr2_add_Office => k_is); (case nl_add_CappedOffice => k_is); (case nr2_add_CappedOffice => k_is); (case h_eq_Route_Office => rfl); (case cd_Office => k_is); (case h_mro_Office => rfl); (case z_tuple => k_is); (case z_bool => k_is); (case c_is_integer => k_is); (case k_is_integer => k_is); (case cr_Office => k_is); (case cq_Office => k_is); (case cv_Office_RATE => k_is); (case c_is_rate => k_is); (case k_is_rate => k_is); (case c_need_integer => k_is); (case k_need_integer => k_is); (case ck_CappedOffice_FEE => k_is); (case ck_Office_FEE => k_is); (case ck_CappedOffice_LEAST => k_is); (case ck_Office_LEAST => k_is); (case na_CappedOffice_name => k_is); (case na_Office_name => k_is); (case na_CappedOffice_own_rate => k_is); (case na_Office_own_rate => k_is); (case na_CappedOffice_own_fee => k_is); (case na_Office_own_fee => k_is); (case na_CappedOffice_own_least => k_is); (case na_Office_own_least => k_is); (case c_Office_init => k_is); (case k_Office_init => k_is); (case mm_Office => k_is); (case mf_Office_init => k_is); (case mc_Office => k_is); (case sr_CappedOffice_CappedOffice => k_is); (case sa_CappedOffice_CappedOffice_init => ks_is); (case st_Office_init => k_is); (case fi_Office_init => k_is); (case zo_any => k_is); (case ck_CappedOffice_MOST => k_is); (case na_CappedOffice_own_most => k_is); (case c_CappedOffice_init => k_is); (case h_CappedOffice_init => rfl); (case i_CappedOffice_init => rfl); (case z_super => k_is); (case zt_super => rfl); (case mm_CappedOffice => k_is); (case mf_CappedOffice_init => k_is); (case mc_CappedOffice => k_is); (case c_law_one => k_is); (case k_law_one => k_is); (case c_law_joined => k_is); (case k_law_joined => k_is); (case pg_Route_end => k_is); (case pt_Route_end => k_is); (case c_Route_end => k_is); (case k_Route_end => k_is); (case pg_Route_start => k_is); (case pt_Route_start => k_is); (case c_Route_start => k_is); (case k_Route_start => k_is); (case pg_Route_offices => k_is); (case pt_Route_offices => k_is); (case c_Route_offices => k_is); (case k_Route_offices => k_is); (case pg_CappedOffice_most => k_is); (case pt_CappedOffice_most => k_is); (case c_CappedOffice_most => k_is); (case k_CappedOffice_most => k_is); (case pg_Office_most => k_is); (case pt_Office_most => k_is); (case c_Office_most => k_is); (case k_Office_most => k_is); (case mf_Route_len => k_is); (case c_Route_len => k_is); (case k_Route_len => k_is); (case gi_LONGEST_ROUTE => k_is); (case c_need_alike => k_is); (case k_need_alike => k_is); (case pg_Office_rate => k_is); (case pt_Office_rate => k_is); (case c_Office_rate => k_is); (case k_Office_rate => k_is); (case c_reduced => k_is); (case k_reduced => k_is); (case c_times => k_is); (case k_times => k_is); (case pg_Route_rate => k_is); (case pt_Route_rate => k_is); (case c_Route_rate => k_is); (case k_Route_rate => k_is); (case pg_Office_least => k_is); (case pt_Office_least => k_is); (case c_Office_least => k_is); (case k_Office_least => k_is); (case pg_Office_fee => k_is); (case pt_Office_fee => k_is); (case c_Office_fee => k_is); (case k_Office_fee => k_is); (case z_max => k_is); (case c_regular_from => k_is); (case k_regular_from => k_is); (case c_common_multiple => k_is); (case k_common_multiple => k_is); (case c_product => k_is); (case k_product => k_is); (case c_divisor => k_is); (case k_divisor => k_is); (case sa_CappedOffice_CappedOffice_result => ks_is); (case st_Office_result => k_is); (case fi_Office_result => k_is); (case c_Office_result => k_is); (case k_Office_result => k_is); (case mf_CappedOffice_result => k_is); (case k_CappedOffice_result => k_is); (case c_CappedOffice_result => k_is); (case h_CappedOffice_result => rfl); (case i_CappedOffice_result => rfl); (case mf_Office_result => k_is); (case mf_Route_result => k_is); (case k_Route_result => k_is); (case c_Route_result => k_is); (case c_is_worse => k_is); (case k_is_worse => k_is); (case c_rise => k_is); (case k_rise => k_is); (case c_first_worse => k_is); (case k_first_worse => k_is); (case c_relation => k_is); (case k_relation => k_is); (case c_law => k_is); (case k_law => k_is)
