import PyProof.Rows.All
import Wide.All
import OpenK.AllK
import Wide.FinOn
import HandS.ForMost
import HandS.Deep
import HandS.TupAny
import HandS.Style
import HandS.Wide
import KE.KSortKeySt
import KE.KSortedM
import PySem.Challenge.RW_rounddown_k81_lists_that_split_all_lots
set_option Elab.async false
set_option linter.all false
set_option maxRecDepth 100000
/-! Den1: a law's code as a computation over values: what the heap holds is said once, here. -/
namespace Dn
open PySem L2

/-- a value as data -/
inductive PV where
  | non | bl (b : Bool) | int (i : Int) | str (s : Str) | tup (xs : List PV) | lst (xs : List PV) | scr (xs : List Int) | hnd (n : Nat)

/-- what a handle holds: a dict that changes -/
inductive MO where
  | dic (kvs : List (Key × PV))

/-- what is frozen, and where the handles stand -/
structure Vw where
  F : Hp
  hs : List Addr

structure Vw.Le (W W' : Vw) : Prop where
  ex : Same W.F W'.F
  pre : ∀ (n : Nat) (a : Addr), W.hs[n]? = some a → W'.hs[n]? = some a
theorem Vw.Le.refl (W : Vw) : W.Le W := ⟨Same.refl _, fun _ _ h => h⟩
theorem Vw.Le.trans {W W1 W2 : Vw} (a : W.Le W1) (b : W1.Le W2) : W.Le W2 := ⟨a.ex.trans b.ex, fun n x h => b.pre n x (a.pre n x h)⟩

mutual
inductive Rep (K : PySem.W.Frag) (W : Vw) : V → PV → Prop
  | non : Rep K W .non .non
  | bl (b : Bool) : Rep K W (.bl b) (.bl b)
  | int (i : Int) : Rep K W (.int i) (.int i)
  | str (s : Str) : Rep K W (.str s) (.str s)
  | tup {a : Addr} {vs : List V} {ds : List PV} : SqT K W.F a vs → Reps K W vs ds → Rep K W (.ref a) (.tup ds)
  | lst {a : Addr} {vs : List V} {ds : List PV} : W.F a = some (.lst vs) → Reps K W vs ds → Rep K W (.ref a) (.lst ds)
  | scr {a : Addr} {ns : List Int} : SqL K W.F a (ns.map V.int) → Rep K W (.ref a) (.scr ns)
  | hnd {a : Addr} {n : Nat} : W.hs[n]? = some a → Rep K W (.ref a) (.hnd n)
inductive Reps (K : PySem.W.Frag) (W : Vw) : List V → List PV → Prop
  | nil : Reps K W [] []
  | cons {v : V} {vs : List V} {d : PV} {ds : List PV} : Rep K W v d → Reps K W vs ds → Reps K W (v :: vs) (d :: ds)
end

theorem same_t {K : PySem.W.Frag} {H H' : Hp} {a : Addr} {xs : List V} (e : Same H H') (h : SqT K H a xs) : SqT K H' a xs := by
  rcases h with (h | ⟨o, h⟩) | h
  · exact .inl (.inl (e _ _ h))
  · exact .inl (.inr ⟨o, e _ _ h⟩)
  · exact .inr h

mutual
theorem Rep.mono {K : PySem.W.Frag} {W W' : Vw} (l : W.Le W') : ∀ {v : V} {d : PV}, Rep K W v d → Rep K W' v d
  | _, _, .non => .non
  | _, _, .bl b => .bl b
  | _, _, .int i => .int i
  | _, _, .str s => .str s
  | _, _, .tup h r => .tup (same_t l.ex h) (Reps.mono l r)
  | _, _, .lst h r => .lst (l.ex _ _ h) (Reps.mono l r)
  | _, _, .scr h => .scr (l.ex.seq h)
  | _, _, .hnd h => .hnd (l.pre _ _ h)
theorem Reps.mono {K : PySem.W.Frag} {W W' : Vw} (l : W.Le W') : ∀ {vs : List V} {ds : List PV}, Reps K W vs ds → Reps K W' vs ds
  | _, _, .nil => .nil
  | _, _, .cons h r => .cons (Rep.mono l h) (Reps.mono l r)
end
section
variable {K : PySem.W.Frag} {W : Vw}
theorem Reps.length : ∀ {vs : List V} {ds : List PV}, Reps K W vs ds → vs.length = ds.length
  | _, _, .nil => rfl
  | _, _, .cons _ r => congrArg Nat.succ (Reps.length r)
theorem Reps.append : ∀ {vs ws : List V} {ds es : List PV}, Reps K W vs ds → Reps K W ws es → Reps K W (vs ++ ws) (ds ++ es)
  | _, _, _, _, .nil, s => s
  | _, _, _, _, .cons h r, s => .cons h (Reps.append r s)
theorem Reps.get : ∀ {vs : List V} {ds : List PV} {i : Nat} {d : PV}, Reps K W vs ds → ds[i]? = some d → ∃ v, vs[i]? = some v ∧ Rep K W v d
  | _, _, i, _, .nil, e => by simp at e
  | _, _, 0, _, .cons h _, e => by simp at e; subst e; exact ⟨_, rfl, h⟩
  | _, _, i + 1, d, .cons _ r, e => by
    obtain ⟨v, h1, h2⟩ := Reps.get (i := i) (d := d) r (by simpa using e)
    exact ⟨v, by simpa using h1, h2⟩
theorem Reps.getV : ∀ {vs : List V} {ds : List PV} {i : Nat} {v : V}, Reps K W vs ds → vs[i]? = some v → ∃ d, ds[i]? = some d ∧ Rep K W v d
  | _, _, i, _, .nil, e => by simp at e
  | _, _, 0, _, .cons h _, e => by simp at e; subst e; exact ⟨_, rfl, h⟩
  | _, _, i + 1, d, .cons _ r, e => by
    obtain ⟨v, h1, h2⟩ := Reps.getV (i := i) (v := d) r (by simpa using e)
    exact ⟨v, by simpa using h1, h2⟩
theorem Reps.take : ∀ {vs : List V} {ds : List PV} (n : Nat), Reps K W vs ds → Reps K W (vs.take n) (ds.take n)
  | _, _, 0, _ => .nil
  | _, _, _ + 1, .nil => .nil
  | _, _, n + 1, .cons h r => .cons h (Reps.take n r)
theorem Reps.drop : ∀ {vs : List V} {ds : List PV} (n : Nat), Reps K W vs ds → Reps K W (vs.drop n) (ds.drop n)
  | _, _, 0, r => r
  | _, _, _ + 1, .nil => .nil
  | _, _, n + 1, .cons _ r => Reps.drop n r
theorem Reps.rev : ∀ {vs : List V} {ds : List PV}, Reps K W vs ds → Reps K W vs.reverse ds.reverse
  | _, _, .nil => .nil
  | _, _, .cons h r => by
    rw [List.reverse_cons, List.reverse_cons]
    exact (Reps.rev r).append (.cons h .nil)
theorem Reps.erase : ∀ {vs : List V} {ds : List PV} (n : Nat), Reps K W vs ds → Reps K W (vs.eraseIdx n) (ds.eraseIdx n)
  | _, _, _, .nil => .nil
  | _, _, 0, .cons _ r => r
  | _, _, n + 1, .cons h r => .cons h (Reps.erase n r)
theorem Reps.set {v : V} {d : PV} (q : Rep K W v d) : ∀ {vs : List V} {ds : List PV} (n : Nat), Reps K W vs ds → Reps K W (vs.set n v) (ds.set n d)
  | _, _, _, .nil => .nil
  | _, _, 0, .cons _ r => .cons q r
  | _, _, n + 1, .cons h r => .cons h (Reps.set q n r)
theorem Reps.rep {vs : List V} {ds : List PV} (r : Reps K W vs ds) : ∀ n : Nat, Reps K W (List.replicate n vs).flatten (List.replicate n ds).flatten
  | 0 => .nil
  | n + 1 => by
    rw [List.replicate_succ, List.replicate_succ, List.flatten_cons, List.flatten_cons]
    exact r.append (Reps.rep r n)
theorem Reps.ints : ∀ (ns : List Int), Reps K W (ns.map V.int) (ns.map PV.int)
  | [] => .nil
  | n :: ns => .cons (.int n) (Reps.ints ns)
theorem Reps.strs : ∀ (ns : List Str), Reps K W (ns.map V.str) (ns.map PV.str)
  | [] => .nil
  | n :: ns => .cons (.str n) (Reps.strs ns)
/-- the values of texts are texts -/
theorem Reps.of_strs : ∀ {vs : List V} {ns : List Str}, Reps K W vs (ns.map PV.str) → vs = ns.map V.str
  | _, [], .nil => rfl
  | _, n :: ns, .cons h r => by
    cases h
    rw [Reps.of_strs r]
    rfl
theorem Reps.of_ints : ∀ {vs : List V} {ns : List Int}, Reps K W vs (ns.map PV.int) → vs = ns.map V.int
  | _, [], .nil => rfl
  | _, n :: ns, .cons h r => by
    cases h
    rw [Reps.of_ints r]
    rfl
theorem Reps.of_bls : ∀ {vs : List V} {ns : List Bool}, Reps K W vs (ns.map PV.bl) → vs = ns.map V.bl
  | _, [], .nil => rfl
  | _, n :: ns, .cons h r => by
    cases h
    rw [Reps.of_bls r]
    rfl
end

/-! ### a dict's pairs -/
inductive KVs (K : PySem.W.Frag) (W : Vw) : List (Key × V) → List (Key × PV) → Prop
  | nil : KVs K W [] []
  | cons {k : Key} {v : V} {d : PV} {r : List (Key × V)} {s : List (Key × PV)} : Rep K W v d → KVs K W r s → KVs K W ((k, v) :: r) ((k, d) :: s)
theorem KVs.mono {K : PySem.W.Frag} {W W' : Vw} (l : W.Le W') : ∀ {r : List (Key × V)} {s : List (Key × PV)}, KVs K W r s → KVs K W' r s
  | _, _, .nil => .nil
  | _, _, .cons h r => .cons (h.mono l) (KVs.mono l r)

/-- what a handle's object is in the heap -/
inductive MRep (K : PySem.W.Frag) (W : Vw) (H : Hp) (a : Addr) : MO → Prop
  | dic {kvs : List (Key × V)} {ds : List (Key × PV)} : H a = some (.dK kvs) → KVs K W kvs ds → MRep K W H a (.dic ds)

/-! ### the state of a body -/
inductive SV where
  | val (d : PV)
  | own (xs : List PV)
abbrev Env := List (Option SV)
structure S where
  env : Env
  sto : List MO
structure Ctx where
  G : Hp
  F0 : Hp
  hs0 : List Addr

structure Okk (K : PySem.W.Frag) (W : Vw) (st : List MO) (H : Hp) : Prop where
  sub : Same W.F H
  hnd : ∀ (n : Nat) (a : Addr), W.hs[n]? = some a → W.F a = none ∧ ∃ mo, st[n]? = some mo ∧ MRep K W H a mo
  nd : W.hs.Nodup
  len : st.length = W.hs.length

structure Owns (C : Ctx) (W : Vw) (a : Addr) : Prop where
  f : W.F a = none
  h : a ∉ W.hs
  g : C.G a = none

structure At (K : PySem.W.Frag) (C : Ctx) (W : Vw) (s : S) (σ : L2.St) (H : Hp) : Prop where
  ok : Okk K W s.sto H
  keep : ∀ a o, C.G a = some o → a ∉ C.hs0 → H a = some o
  pre : ∀ (n : Nat) (a : Addr), C.hs0[n]? = some a → W.hs[n]? = some a
  gro : ∀ a, C.G a ≠ none → W.F a = C.F0 a ∧ (a ∈ W.hs → a ∈ C.hs0)
  len : σ.length = s.env.length
  val : ∀ (i : Nat) (d : PV), s.env[i]? = some (some (.val d)) → ∃ v, σ[i]? = some (some v) ∧ Rep K W v d
  own : ∀ (i : Nat) (xs : List PV), s.env[i]? = some (some (.own xs)) → ∃ a vs, σ[i]? = some (some (.ref a)) ∧ Owns C W a ∧ H a = some (.lst vs) ∧ Reps K W vs xs
  dst : ∀ (i j : Nat) (xs ys : List PV) (a : Addr), s.env[i]? = some (some (.own xs)) → s.env[j]? = some (some (.own ys)) → σ[i]? = some (some (.ref a)) → σ[j]? = some (some (.ref a)) → i = j

/-! ### computations -/
inductive Res (τ α : Type) where
  | ok (a : α) (s : τ)
  | exc (e : PV) (s : τ)
  | stk
abbrev M (α : Type) := S → Res S α
def bnd {α β : Type} (c : M α) (f : α → M β) : M β := fun s => match c s with
  | .ok a s' => f a s'
  | .exc e s' => .exc e s'
  | .stk => .stk
def ret {α : Type} (a : α) : M α := fun s => .ok a s
def stuck {α : Type} : M α := fun _ => .stk
/-- a partial answer -/
def lft {α : Type} (o : Option α) : M α := fun s => match o with
  | some a => .ok a s
  | none => .stk

section
variable {K : PySem.W.Frag} {C : Ctx} {W W' : Vw} {σ : L2.St} {H : Hp} {s : S} {α β : Type}
/-- what is wanted of an answer -/
def Pst (K : PySem.W.Frag) (C : Ctx) (W : Vw) (σ : L2.St) (r : Res S α) (Q : α → S → Vw → Hp → Prop) : Prop := match r with
  | .ok a s' => ∀ W' H', W.Le W' → At K C W' s' σ H' → Q a s' W' H'
  | .exc _ _ => False
  | .stk => False
theorem Pst.imp {r : Res S α} {Q Q' : α → S → Vw → Hp → Prop} (h : Pst K C W σ r Q) (f : ∀ a s' W' H', W.Le W' → At K C W' s' σ H' → Q a s' W' H' → Q' a s' W' H') : Pst K C W σ r Q' := by
  cases r with
  | ok a s' => exact fun W' H' l at' => f a s' W' H' l at' (h W' H' l at')
  | exc => exact h
  | stk => exact h
theorem Pst.up {r : Res S α} {Q : α → S → Vw → Hp → Prop} (l : W.Le W') (h : Pst K C W σ r Q) : Pst K C W' σ r Q := by
  cases r with
  | ok a s' => exact fun W2 H2 l2 at2 => h W2 H2 (l.trans l2) at2
  | exc => exact h
  | stk => exact h
theorem Pst.bnd {c : M α} {f : α → M β} {Q : β → S → Vw → Hp → Prop} (h : Pst K C W σ (bnd c f s) Q) : Pst K C W σ (c s) (fun a s1 W1 _ => Pst K C W1 σ (f a s1) Q) := by
  unfold Dn.bnd at h
  cases e : c s with
  | ok a s1 =>
    rw [e] at h
    exact fun W1 H1 l _ => h.up l
  | exc => rw [e] at h; exact h
  | stk => rw [e] at h; exact h
theorem Pst.lft {o : Option α} {Q : α → S → Vw → Hp → Prop} (h : Pst K C W σ (lft o s) Q) (at' : At K C W s σ H) : ∃ a, o = some a ∧ Q a s W H := by
  unfold Dn.lft at h
  cases o with
  | none => exact h.elim
  | some a => exact ⟨a, rfl, h W H (Vw.Le.refl W) at'⟩

/-- an expression's reading: it answers as c does -/
def den (K : PySem.W.Frag) (c : M PV) : TE := fun σ H Q => ∃ C W s, At K C W s σ H ∧ Pst K C W σ (c s) (fun d _ W' H' => ∀ v, Rep K W' v d → Q v H')
/-- a test's -/
def denT (K : PySem.W.Frag) (c : M Bool) : TT := fun σ H Q => ∃ C W s, At K C W s σ H ∧ Pst K C W σ (c s) (fun b _ _ H' => Q b H')
/-- arguments' -/
def denA (K : PySem.W.Frag) (c : M (List PV)) : TA := fun σ H Q => ∃ C W s, At K C W s σ H ∧ Pst K C W σ (c s) (fun ds _ W' H' => ∀ vs, Reps K W' vs ds → Q vs H')
/-- an expression that makes a new list, nobody's yet -/
def denO (K : PySem.W.Frag) (c : M (List PV)) : TE := fun σ H Q => ∃ C W s, At K C W s σ H ∧ Pst K C W σ (c s) (fun ds _ W' H' => ∀ p vs, H' p = none → Reps K W' vs ds → Q (.ref p) (upd H' p (.lst vs)))
inductive Fl where
  | nx | rt (d : PV) | bk | ct
/-- a statement's: the slots may change -/
def PstS (K : PySem.W.Frag) (C : Ctx) (W : Vw) (D : Ends) (r : Res S Fl) : Prop := match r with
  | .ok fl s' => ∀ W' σ' H', W.Le W' → At K C W' s' σ' H' → (match fl with
    | .nx => D.nx σ' H'
    | .rt d => ∀ v, Rep K W' v d → D.rt v H'
    | .bk => D.bk σ' H'
    | .ct => D.ct σ' H')
  | .exc _ _ => False
  | .stk => False
def denS (K : PySem.W.Frag) (c : M Fl) : TS := fun D σ H => ∃ C W s, At K C W s σ H ∧ PstS K C W D (c s)
end

theorem pe_imp {X : Cx} {e : Expr} {t t' : TE} (h : PE X e t) (f : ∀ σ H Q, t' σ H Q → t σ H Q) : PE X e t' := ⟨fun pins s σ H Q I q => h.run pins s σ H Q I (f σ H Q q)⟩
theorem pt_imp {X : Cx} {e : Expr} {t t' : TT} (h : PT X e t) (f : ∀ σ H Q, t' σ H Q → t σ H Q) : PT X e t' := ⟨fun pins s σ H Q I q => h.run pins s σ H Q I (f σ H Q q)⟩
theorem pw_imp {X : Cx} {e : Expr} {t t' : TT} (h : PW X e t) (f : ∀ σ H Q, t' σ H Q → t σ H Q) : PW X e t' := ⟨fun wh pins s σ H Q I q => h.run wh pins s σ H Q I (f σ H Q q)⟩
theorem pa_imp {X : Cx} {e : List Expr} {t t' : TA} (h : PA X e t) (f : ∀ σ H Q, t' σ H Q → t σ H Q) : PA X e t' := ⟨fun pos pins s σ H Q I q => h.run pos pins s σ H Q I (f σ H Q q)⟩
theorem ps_imp {X : Cx} {e : Stmt} {t t' : TS} (h : PS X e t) (f : ∀ D σ H, t' D σ H → t D σ H) : PS X e t' := ⟨fun pins s σ H D I q => h.run pins s σ H D I (f D σ H q)⟩
theorem pss_imp {X : Cx} {e : List Stmt} {t t' : TS} (h : PSs X e t) (f : ∀ D σ H, t' D σ H → t D σ H) : PSs X e t' := ⟨fun pins s σ H D I q => h.run pins s σ H D I (f D σ H q)⟩

/-! ### the state changes -/
section
variable {K : PySem.W.Frag} {C : Ctx} {W W' : Vw} {σ : L2.St} {H : Hp} {s : S} {p a : Addr} {o : HO} {vs : List V} {ds xs : List PV} {d : PV} {v : V} {i : Nat}
theorem At.fresh (h : At K C W s σ H) (hp : H p = none) : W.F p = none ∧ p ∉ W.hs ∧ C.G p = none := by
  refine ⟨h.ok.sub.free hp, fun hm => ?_, ?_⟩
  · obtain ⟨n, hn⟩ := List.getElem?_of_mem hm
    obtain ⟨_, mo, _, mr⟩ := h.ok.hnd n p hn
    cases mr with
    | dic e _ => rw [hp] at e; cases e
  · cases e : C.G p with
    | none => rfl
    | some o =>
      by_cases hm : p ∈ C.hs0
      · obtain ⟨n, hn⟩ := List.getElem?_of_mem hm
        obtain ⟨_, mo, _, mr⟩ := h.ok.hnd n p (h.pre n p hn)
        cases mr with
        | dic e _ => rw [hp] at e; cases e
      · have := h.keep p o e hm
        rw [hp] at this
        cases this
theorem MRep.mono {mo : MO} (l : W.Le W') (r : MRep K W H a mo) : MRep K W' H a mo := by
  cases r with
  | dic e k => exact .dic e (k.mono l)
theorem MRep.other {mo : MO} (r : MRep K W H a mo) (n : a ≠ p) : MRep K W (upd H p o) a mo := by
  cases r with
  | dic e k => exact .dic (by rw [upd_ne n]; exact e) k
theorem MRep.some {mo : MO} (r : MRep K W H a mo) : ∃ o, H a = Option.some o := by
  cases r with
  | dic e k => exact ⟨_, e⟩
/-- a new object laid and frozen at once -/
theorem At.lay (h : At K C W s σ H) (hp : H p = none) (o : HO) : W.Le ⟨upd W.F p o, W.hs⟩ ∧ At K C ⟨upd W.F p o, W.hs⟩ s σ (upd H p o) := by
  obtain ⟨f1, f2, f3⟩ := h.fresh hp
  have le : W.Le ⟨upd W.F p o, W.hs⟩ := ⟨fun b u e => by show upd W.F p o b = some u; rw [upd_ne (ne_of_none e f1)]; exact e, fun _ _ e => e⟩
  refine ⟨le, ⟨⟨fun b u e => ?_, fun n b e => ?_, h.ok.nd, h.ok.len⟩, fun b u e hb => ?_, h.pre, fun b hb => ?_, h.len, fun j d e => ?_, fun j ys e => ?_, h.dst⟩⟩
  · have e : upd W.F p o b = some u := e
    by_cases hb : b = p
    · subst hb
      rw [upd_same] at e ⊢
      exact e
    · rw [upd_ne hb] at e ⊢
      exact h.ok.sub b u e
  · obtain ⟨g1, mo, g2, g3⟩ := h.ok.hnd n b e
    have hb : b ≠ p := fun z => f2 (z ▸ List.mem_of_getElem? e)
    exact ⟨by show upd W.F p o b = _; rw [upd_ne hb]; exact g1, mo, g2, (g3.other hb).mono le⟩
  · have hb' : b ≠ p := fun z => by rw [z, f3] at e; cases e
    rw [upd_ne hb']
    exact h.keep b u e hb
  · obtain ⟨r1, r2⟩ := h.gro b hb
    exact ⟨by show upd W.F p o b = _; rw [upd_ne (fun z => hb (by rw [z]; exact f3))]; exact r1, r2⟩
  · obtain ⟨v, e1, r⟩ := h.val j d e
    exact ⟨v, e1, r.mono le⟩
  · obtain ⟨b, ws, e1, ow, e2, r⟩ := h.own j ys e
    have hb : b ≠ p := ne_of_none e2 hp
    exact ⟨b, ws, e1, ⟨by show upd W.F p o b = _; rw [upd_ne hb]; exact ow.f, ow.h, ow.g⟩, by rw [upd_ne hb]; exact e2, r.mono le⟩
theorem At.layT (h : At K C W s σ H) (hp : H p = none) (r : Reps K W vs ds) : ∃ W', W.Le W' ∧ At K C W' s σ (upd H p (.tup vs)) ∧ Rep K W' (.ref p) (.tup ds) := by
  obtain ⟨l, h'⟩ := h.lay hp (.tup vs)
  exact ⟨_, l, h', .tup (SqT.of upd_same) (r.mono l)⟩
theorem At.layL (h : At K C W s σ H) (hp : H p = none) (r : Reps K W vs ds) : ∃ W', W.Le W' ∧ At K C W' s σ (upd H p (.lst vs)) ∧ Rep K W' (.ref p) (.lst ds) := by
  obtain ⟨l, h'⟩ := h.lay hp (.lst vs)
  exact ⟨_, l, h', .lst upd_same (r.mono l)⟩
/-- a value stored in a slot -/
theorem At.set (h : At K C W s σ H) (r : Rep K W v d) (i : Nat) : At K C W { s with env := s.env.set i (some (.val d)) } (σ.set i (some v)) H := by
  refine ⟨h.ok, h.keep, h.pre, h.gro, by rw [List.length_set, List.length_set]; exact h.len, fun j e he => ?_, fun j ys he => ?_, fun j k ys zs a h1 h2 h3 h4 => ?_⟩
  · by_cases hj : i = j
    · subst hj
      have hi : i < s.env.length := by
        have := (List.getElem?_eq_some_iff.mp he).1
        rwa [List.length_set] at this
      rw [List.getElem?_set_self hi] at he
      cases he
      exact ⟨v, List.getElem?_set_self (by rw [h.len]; exact hi), r⟩
    · rw [List.getElem?_set_ne hj] at he
      rw [List.getElem?_set_ne hj]
      exact h.val j e he
  · by_cases hj : i = j
    · subst hj
      have hi : i < s.env.length := by
        have := (List.getElem?_eq_some_iff.mp he).1
        rwa [List.length_set] at this
      rw [List.getElem?_set_self hi] at he
      cases he
    · rw [List.getElem?_set_ne hj] at he
      rw [List.getElem?_set_ne hj]
      exact h.own j ys he
  · have ne : ∀ {m : Nat} {ws : List PV}, (s.env.set i (some (.val d)))[m]? = some (some (.own ws)) → i ≠ m := fun {m ws} he hm => by
      subst hm
      have hi : i < s.env.length := by
        have := (List.getElem?_eq_some_iff.mp he).1
        rwa [List.length_set] at this
      rw [List.getElem?_set_self hi] at he
      cases he
    have n1 := ne h1
    have n2 := ne h2
    rw [List.getElem?_set_ne n1] at h1 h3
    rw [List.getElem?_set_ne n2] at h2 h4
    exact h.dst j k ys zs a h1 h2 h3 h4
/-- a new list stored in a slot: the slot owns it -/
theorem At.setO (h : At K C W s σ H) (hp : H p = none) (r : Reps K W vs ds) (i : Nat) : At K C W { s with env := s.env.set i (some (.own ds)) } (σ.set i (some (.ref p))) (upd H p (.lst vs)) := by
  obtain ⟨f1, f2, f3⟩ := h.fresh hp
  have old : ∀ {j : Nat} {ys : List PV}, s.env[j]? = some (some (.own ys)) → σ[j]? = some (some (.ref p)) → False := fun {j ys} e z => by
    obtain ⟨b, ws, e1, _, e2, _⟩ := h.own j ys e
    rw [z] at e1
    cases e1
    rw [hp] at e2
    cases e2
  refine ⟨⟨fun b u e => ?_, fun n b e => ?_, h.ok.nd, h.ok.len⟩, fun b u e hb => ?_, h.pre, h.gro, by rw [List.length_set, List.length_set]; exact h.len, fun j e he => ?_, fun j ys he => ?_, fun j k ys zs a h1 h2 h3 h4 => ?_⟩
  · rw [upd_ne (ne_of_none e f1)]
    exact h.ok.sub b u e
  · obtain ⟨g1, mo, g2, g3⟩ := h.ok.hnd n b e
    exact ⟨g1, mo, g2, g3.other fun z => f2 (z ▸ List.mem_of_getElem? e)⟩
  · rw [upd_ne (fun z => by rw [z, f3] at e; cases e)]
    exact h.keep b u e hb
  · by_cases hj : i = j
    · subst hj
      have hi : i < s.env.length := by
        have := (List.getElem?_eq_some_iff.mp he).1
        rwa [List.length_set] at this
      rw [List.getElem?_set_self hi] at he
      cases he
    · rw [List.getElem?_set_ne hj] at he
      rw [List.getElem?_set_ne hj]
      exact h.val j e he
  · by_cases hj : i = j
    · subst hj
      have hi : i < s.env.length := by
        have := (List.getElem?_eq_some_iff.mp he).1
        rwa [List.length_set] at this
      rw [List.getElem?_set_self hi] at he
      cases he
      exact ⟨p, vs, List.getElem?_set_self (by rw [h.len]; exact hi), ⟨f1, f2, f3⟩, upd_same, r⟩
    · rw [List.getElem?_set_ne hj] at he
      rw [List.getElem?_set_ne hj]
      obtain ⟨b, ws, e1, ow, e2, r2⟩ := h.own j ys he
      exact ⟨b, ws, e1, ow, by rw [upd_ne (ne_of_none e2 hp)]; exact e2, r2⟩
  · have hi : i < s.env.length ∨ ¬ i < s.env.length := Nat.lt_or_ge _ _ |>.imp id (fun z => by omega)
    by_cases hj : i = j
    · by_cases hk : i = k
      · exact hj.symm.trans hk
      · subst hj
        have hil : i < s.env.length := by
          have := (List.getElem?_eq_some_iff.mp h1).1
          rwa [List.length_set] at this
        rw [List.getElem?_set_self (by rw [h.len]; exact hil)] at h3
        cases h3
        rw [List.getElem?_set_ne hk] at h2 h4
        exact (old h2 h4).elim
    · by_cases hk : i = k
      · subst hk
        have hil : i < s.env.length := by
          have := (List.getElem?_eq_some_iff.mp h2).1
          rwa [List.length_set] at this
        rw [List.getElem?_set_self (by rw [h.len]; exact hil)] at h4
        cases h4
        rw [List.getElem?_set_ne hj] at h1 h3
        exact (old h1 h3).elim
      · rw [List.getElem?_set_ne hj] at h1 h3
        rw [List.getElem?_set_ne hk] at h2 h4
        exact h.dst j k ys zs a h1 h2 h3 h4
/-- an owned list frozen where it stands -/
theorem At.freeze (h : At K C W s σ H) (he : s.env[i]? = some (some (.own xs))) : ∃ W' a, σ[i]? = some (some (.ref a)) ∧ W.Le W' ∧ At K C W' { s with env := s.env.set i (some (.val (.lst xs))) } σ H ∧ Rep K W' (.ref a) (.lst xs) := by
  obtain ⟨a, vs, e1, ow, e2, r⟩ := h.own i xs he
  have le : W.Le ⟨upd W.F a (.lst vs), W.hs⟩ := ⟨fun b u e => by show upd W.F a (.lst vs) b = some u; rw [upd_ne (ne_of_none e ow.f)]; exact e, fun _ _ e => e⟩
  have ra : Rep K ⟨upd W.F a (.lst vs), W.hs⟩ (.ref a) (.lst xs) := .lst upd_same (r.mono le)
  have hi : i < s.env.length := (List.getElem?_eq_some_iff.mp he).1
  refine ⟨⟨upd W.F a (.lst vs), W.hs⟩, a, e1, le, ⟨⟨fun b u e => ?_, fun n b e => ?_, h.ok.nd, h.ok.len⟩, h.keep, h.pre, fun b hb => ?_, by rw [List.length_set]; exact h.len, fun j e hj => ?_, fun j ys hj => ?_, fun j k ys zs b h1 h2 h3 h4 => ?_⟩, ra⟩
  · by_cases hb : b = a
    · subst hb
      have e' : upd W.F b (.lst vs) b = some u := e
      rw [upd_same] at e'
      rw [e2]
      exact e'
    · have e' : upd W.F a (.lst vs) b = some u := e
      rw [upd_ne hb] at e'
      exact h.ok.sub b u e'
  · obtain ⟨g1, mo, g2, g3⟩ := h.ok.hnd n b e
    have hb : b ≠ a := fun z => ow.h (z ▸ List.mem_of_getElem? e)
    exact ⟨by show upd W.F a (.lst vs) b = _; rw [upd_ne hb]; exact g1, mo, g2, g3.mono le⟩
  · obtain ⟨r1, r2⟩ := h.gro b hb
    exact ⟨by show upd W.F a (.lst vs) b = _; rw [upd_ne (fun z => hb (by rw [z]; exact ow.g))]; exact r1, r2⟩
  · by_cases hij : i = j
    · subst hij
      rw [List.getElem?_set_self hi] at hj
      cases hj
      exact ⟨.ref a, e1, ra⟩
    · rw [List.getElem?_set_ne hij] at hj
      obtain ⟨v, e3, r3⟩ := h.val j e hj
      exact ⟨v, e3, r3.mono le⟩
  · have hij : i ≠ j := fun z => by
      subst z
      rw [List.getElem?_set_self hi] at hj
      cases hj
    rw [List.getElem?_set_ne hij] at hj
    obtain ⟨b, ws, e3, ow3, e4, r4⟩ := h.own j ys hj
    have hb : b ≠ a := fun z => by
      subst z
      exact hij (h.dst i j xs ys b he hj e1 e3)
    exact ⟨b, ws, e3, ⟨by show upd W.F a (.lst vs) b = _; rw [upd_ne hb]; exact ow3.f, ow3.h, ow3.g⟩, e4, r4.mono le⟩
  · have ne : ∀ {m : Nat} {ws : List PV}, (s.env.set i (some (.val (.lst xs))))[m]? = some (some (.own ws)) → i ≠ m := fun {m ws} e z => by
      subst z
      rw [List.getElem?_set_self hi] at e
      cases e
    have n1 := ne h1
    have n2 := ne h2
    rw [List.getElem?_set_ne n1] at h1
    rw [List.getElem?_set_ne n2] at h2
    exact h.dst j k ys zs b h1 h2 h3 h4
/-- an owned list changed -/
theorem At.change (h : At K C W s σ H) (he : s.env[i]? = some (some (.own xs))) (hσ : σ[i]? = some (some (.ref a))) (r : Reps K W vs ds) : At K C W { s with env := s.env.set i (some (.own ds)) } σ (upd H a (.lst vs)) := by
  obtain ⟨a', vs', e1, ow, e2, _⟩ := h.own i xs he
  rw [hσ] at e1
  cases e1
  have hi : i < s.env.length := (List.getElem?_eq_some_iff.mp he).1
  refine ⟨⟨fun b u e => ?_, fun n b e => ?_, h.ok.nd, h.ok.len⟩, fun b u e hb => ?_, h.pre, h.gro, by rw [List.length_set]; exact h.len, fun j e hj => ?_, fun j ys hj => ?_, fun j k ys zs b h1 h2 h3 h4 => ?_⟩
  · rw [upd_ne (ne_of_none e ow.f)]
    exact h.ok.sub b u e
  · obtain ⟨g1, mo, g2, g3⟩ := h.ok.hnd n b e
    exact ⟨g1, mo, g2, g3.other fun z => ow.h (z ▸ List.mem_of_getElem? e)⟩
  · rw [upd_ne (fun z => by rw [z, ow.g] at e; cases e)]
    exact h.keep b u e hb
  · have hij : i ≠ j := fun z => by
      subst z
      rw [List.getElem?_set_self hi] at hj
      cases hj
    rw [List.getElem?_set_ne hij] at hj
    exact h.val j e hj
  · by_cases hij : i = j
    · subst hij
      rw [List.getElem?_set_self hi] at hj
      cases hj
      exact ⟨a, vs, hσ, ow, upd_same, r⟩
    · rw [List.getElem?_set_ne hij] at hj
      obtain ⟨b, ws, e3, ow3, e4, r4⟩ := h.own j ys hj
      have hb : b ≠ a := fun z => by
        subst z
        exact hij (h.dst i j xs ys b he hj hσ e3)
      exact ⟨b, ws, e3, ow3, by rw [upd_ne hb]; exact e4, r4⟩
  · have old : ∀ {m : Nat} {ws : List PV}, (s.env.set i (some (.own ds)))[m]? = some (some (.own ws)) → ∃ ws', s.env[m]? = some (some (.own ws')) := fun {m ws} e => by
      by_cases z : i = m
      · subst z; exact ⟨xs, he⟩
      · rw [List.getElem?_set_ne z] at e
        exact ⟨ws, e⟩
    obtain ⟨y1, g1⟩ := old h1
    obtain ⟨y2, g2⟩ := old h2
    exact h.dst j k y1 y2 b g1 g2 h3 h4
end
end Dn
/-! Den2: expressions. -/
namespace Dn
open PySem L2

/-- a value that may be read where one stands -/
inductive RdV (K : PySem.W.Frag) (W : Vw) (H : Hp) : V → PV → Prop
  | rep {v : V} {d : PV} : Rep K W v d → RdV K W H v d
  | own {a : Addr} {vs : List V} {xs : List PV} : H a = some (.lst vs) → Reps K W vs xs → RdV K W H (.ref a) (.lst xs)
section
variable {K : PySem.W.Frag} {C : Ctx} {W W' : Vw} {σ : L2.St} {H : Hp} {s : S} {v w : V} {d : PV}
theorem RdV.int {i : Int} (h : RdV K W H v (.int i)) : v = .int i := by
  cases h with
  | rep h => cases h; rfl
theorem RdV.str {i : Str} (h : RdV K W H v (.str i)) : v = .str i := by
  cases h with
  | rep h => cases h; rfl
theorem RdV.bl {i : Bool} (h : RdV K W H v (.bl i)) : v = .bl i := by
  cases h with
  | rep h => cases h; rfl
theorem RdV.non (h : RdV K W H v .non) : v = .non := by
  cases h with
  | rep h => cases h; rfl
theorem RdV.tup {ds : List PV} (e : Same W.F H) (h : RdV K W H v (.tup ds)) : ∃ a vs, v = .ref a ∧ SqT K W.F a vs ∧ SqT K H a vs ∧ Reps K W vs ds := by
  cases h with
  | rep h => cases h with
    | tup h r => exact ⟨_, _, rfl, h, same_t e h, r⟩
theorem RdV.lst {ds : List PV} (e : Same W.F H) (h : RdV K W H v (.lst ds)) : ∃ a vs, v = .ref a ∧ H a = some (.lst vs) ∧ Reps K W vs ds := by
  cases h with
  | rep h => cases h with
    | lst h r => exact ⟨_, _, rfl, e _ _ h, r⟩
  | own h r => exact ⟨_, _, rfl, h, r⟩
theorem RdV.scr {ns : List Int} (e : Same W.F H) (h : RdV K W H v (.scr ns)) : ∃ a, v = .ref a ∧ SqL K H a (ns.map V.int) := by
  cases h with
  | rep h => cases h with
    | scr h => exact ⟨_, rfl, e.seq h⟩
theorem RdV.hnd {n : Nat} (h : RdV K W H v (.hnd n)) : ∃ a, v = .ref a ∧ W.hs[n]? = some a := by
  cases h with
  | rep h => cases h with
    | hnd h => exact ⟨_, rfl, h⟩

/-! ### as the library's data -/
mutual
def PV.toD : PV → Option PyData
  | .non => some .none
  | .bl b => some (.bool b)
  | .int i => some (.int i)
  | .str x => some (.str x)
  | .tup xs => (PV.toDs xs).map .tuple
  | .lst xs => (PV.toDs xs).map .list
  | .scr ns => some (.list (ns.map .int))
  | .hnd _ => none
def PV.toDs : List PV → Option (List PyData)
  | [] => some []
  | x :: xs => match PV.toD x, PV.toDs xs with
    | some d, some ds => some (d :: ds)
    | _, _ => none
end
theorem dp_ints (H : Hp) : ∀ ns : List Int, DpAll K H (ns.map V.int) (ns.map PyData.int)
  | [] => .nil
  | n :: ns => .cons (.int n) (dp_ints H ns)
mutual
theorem dp_of (e : Same W.F H) : ∀ {v : V} {d : PV} {x : PyData}, Rep K W v d → d.toD = some x → Dp K H v x
  | _, _, _, .non, h => by cases h; exact .non
  | _, _, _, .bl b, h => by cases h; exact .bl b
  | _, _, _, .int i, h => by cases h; exact .int i
  | _, _, _, .str i, h => by cases h; exact .str i
  | _, .tup ds, x, .tup hq r, h => by
    have h : (PV.toDs ds).map PyData.tuple = some x := by rw [← h, PV.toD]
    obtain ⟨ys, e1, rfl⟩ := Option.map_eq_some_iff.mp h
    exact .tup (same_t e hq) (dps_of e r e1)
  | _, .lst ds, x, .lst hq r, h => by
    have h : (PV.toDs ds).map PyData.list = some x := by rw [← h, PV.toD]
    obtain ⟨ys, e1, rfl⟩ := Option.map_eq_some_iff.mp h
    exact .lst (SqL.of (e _ _ hq)) (dps_of e r e1)
  | _, .scr ns, x, .scr hq, h => by
    have h : some (PyData.list (ns.map .int)) = some x := by rw [← h, PV.toD]
    cases h
    exact .lst (e.seq hq) (dp_ints H ns)
  | _, .hnd n, x, .hnd hq, h => by
    have h : none = some x := by rw [← h, PV.toD]
    cases h
theorem dps_of (e : Same W.F H) : ∀ {vs : List V} {ds : List PV} {xs : List PyData}, Reps K W vs ds → PV.toDs ds = some xs → DpAll K H vs xs
  | _, _, _, .nil, h => by
    rw [PV.toDs] at h
    cases h
    exact .nil
  | _, d :: ds, xs, .cons hq r, h => by
    rw [PV.toDs] at h
    split at h
    · rename_i y ys e1 e2
      cases h
      exact .cons (dp_of e hq e1) (dps_of e r e2)
    · cases h
end
theorem RdV.dp {x : PyData} (e : Same W.F H) (h : RdV K W H v d) (hd : d.toD = some x) : Dp K H v x := by
  cases h with
  | rep h => exact dp_of e h hd
  | @own a vs xs h r =>
    have hd : (PV.toDs xs).map PyData.list = some x := by rw [← hd, PV.toD]
    obtain ⟨ys, e1, rfl⟩ := Option.map_eq_some_iff.mp hd
    exact .lst (SqL.of h) (dps_of e r e1)

theorem Pst.lft' {α : Type} {o : Option α} {Q : α → S → Vw → Hp → Prop} (h : Pst K C W σ (Dn.lft o s) Q) : ∃ a, o = some a ∧ ∀ W' H', W.Le W' → At K C W' s σ H' → Q a s W' H' := by
  unfold Dn.lft at h
  cases o with
  | none => exact h.elim
  | some a => exact ⟨a, rfl, h⟩
end

/-! ### names -/
def SV.pv : SV → PV
  | .val d => d
  | .own xs => .lst xs
/-- a name read: what it owns is frozen -/
def var (i : Nat) : M PV := fun s => match s.env[i]? with
  | some (some (.val d)) => .ok d s
  | some (some (.own xs)) => .ok (.lst xs) { s with env := s.env.set i (some (.val (.lst xs))) }
  | _ => .stk
/-- a name looked at, in a place from which nothing escapes -/
def brw (i : Nat) : M PV := fun s => match s.env[i]? with
  | some (some sv) => .ok sv.pv s
  | _ => .stk
section
variable {K : PySem.W.Frag} {C : Ctx} {W W' : Vw} {σ : L2.St} {H : Hp} {s : S} {v w : V} {d : PV} {Q : VK} {i : Nat} {ca cb : M PV}
theorem den_var (h : den K (var i) σ H Q) : tVar i σ H Q := by
  obtain ⟨C, W, s, at', p⟩ := h
  unfold var at p
  split at p
  · rename_i d e
    obtain ⟨v, e1, r⟩ := at'.val i d e
    exact ⟨v, e1, p W H (Vw.Le.refl W) at' v r⟩
  · rename_i xs e
    obtain ⟨W', a, e1, l, at2, r⟩ := at'.freeze e
    exact ⟨.ref a, e1, p W' H l at2 _ r⟩
  · exact p.elim
theorem At.look {sv : SV} (h : At K C W s σ H) (e : s.env[i]? = some (some sv)) : ∃ v, σ[i]? = some (some v) ∧ RdV K W H v sv.pv := by
  cases sv with
  | val d =>
    obtain ⟨v, e1, r⟩ := h.val i d e
    exact ⟨v, e1, .rep r⟩
  | own xs =>
    obtain ⟨a, vs, e1, ow, e2, r⟩ := h.own i xs e
    exact ⟨_, e1, .own e2 r⟩
theorem brw_ok {Q : PV → S → Vw → Hp → Prop} (h : At K C W s σ H) (p : Pst K C W σ (brw i s) Q) : ∃ sv v, s.env[i]? = some (some sv) ∧ σ[i]? = some (some v) ∧ RdV K W H v sv.pv ∧ Q sv.pv s W H := by
  unfold brw at p
  split at p
  · rename_i sv e
    obtain ⟨v, e1, r⟩ := h.look e
    exact ⟨sv, v, e, e1, r, p W H (Vw.Le.refl W) h⟩
  · exact p.elim
theorem den_ret (h : den K (ret d) σ H Q) (r : ∀ W, Rep K W v d) : tC v σ H Q := by
  obtain ⟨C, W, s, at', p⟩ := h
  exact p W H (Vw.Le.refl W) at' v (r W)

/-! ### operators -/
abbrev WantV (K : PySem.W.Frag) (Q : VK) : PV → S → Vw → Hp → Prop := fun d _ W' H' => ∀ v, Rep K W' v d → Q v H'
abbrev WantL (K : PySem.W.Frag) (Q : VK) : List PV → S → Vw → Hp → Prop := fun ds _ W' H' => ∀ p vs, H' p = none → Reps K W' vs ds → Q (.ref p) (upd H' p (.lst vs))
def bin (ca cb : M PV) (op : PV → PV → M PV) : M PV := bnd ca fun a => bnd cb fun b => op a b
/-- the left one a name, looked at -/
def chk (i : Nat) : M Unit := fun s => match s.env[i]? with
  | some (some _) => .ok () s
  | _ => .stk
def binL (i : Nat) (cb : M PV) (op : PV → PV → M PV) : M PV := bnd (chk i) fun _ => bnd cb fun b => bnd (brw i) fun a => op a b
def binR (ca : M PV) (i : Nat) (op : PV → PV → M PV) : M PV := bnd ca fun a => bnd (brw i) fun b => op a b
def Bin (r : R2) (K : PySem.W.Frag) (op : PV → PV → M PV) : Prop := ∀ (C : Ctx) (W : Vw) (s : S) (σ : L2.St) (H : Hp) (v w : V) (a b : PV) (Q : VK), At K C W s σ H → RdV K W H v a → RdV K W H w b → Pst K C W σ (op a b s) (WantV K Q) → r v w H Q
theorem den_bin {r : R2} {op : PV → PV → M PV} (hb : Bin r K op) (h : den K (bin ca cb op) σ H Q) : tOp r (den K ca) (den K cb) σ H Q := by
  obtain ⟨C, W, s, at', p⟩ := h
  refine ⟨C, W, s, at', (Pst.bnd p).imp fun a s1 W1 H1 l1 at1 p1 v rv => ⟨C, W1, s1, at1, (Pst.bnd p1).imp fun b s2 W2 H2 l2 at2 p2 w rw' => ?_⟩⟩
  exact hb C W2 s2 σ H2 v w a b Q at2 (.rep (rv.mono l2)) (.rep rw') p2
theorem chk_ok {α : Type} {f : Unit → M α} {Q : α → S → Vw → Hp → Prop} (h : At K C W s σ H) (p : Pst K C W σ (bnd (chk i) f s) Q) : (∃ v, σ[i]? = some (some v)) ∧ Pst K C W σ (f () s) Q := by
  unfold bnd chk at p
  cases e : s.env[i]? with
  | none => rw [e] at p; exact p.elim
  | some o =>
    cases o with
    | none => rw [e] at p; exact p.elim
    | some sv =>
      rw [e] at p
      obtain ⟨v, e1, _⟩ := h.look e
      exact ⟨⟨v, e1⟩, p⟩
theorem den_binL {r : R2} {op : PV → PV → M PV} (hb : Bin r K op) (h : den K (binL i cb op) σ H Q) : tOp r (tVar i) (den K cb) σ H Q := by
  obtain ⟨C, W, s, at', p⟩ := h
  obtain ⟨⟨v, e⟩, p⟩ := chk_ok at' p
  refine ⟨v, e, C, W, s, at', (Pst.bnd p).imp fun b s2 W2 H2 l2 at2 p2 w rw' => ?_⟩
  obtain ⟨sv, v', _, e', rv, p3⟩ := brw_ok at2 (Pst.bnd p2)
  rw [e] at e'
  cases e'
  exact hb C W2 s2 σ H2 v w _ b Q at2 rv (.rep rw') p3
theorem den_binR {r : R2} {op : PV → PV → M PV} (hb : Bin r K op) (h : den K (binR ca i op) σ H Q) : tOp r (den K ca) (tVar i) σ H Q := by
  obtain ⟨C, W, s, at', p⟩ := h
  refine ⟨C, W, s, at', (Pst.bnd p).imp fun a s2 W2 H2 l2 at2 p2 w rw' => ?_⟩
  obtain ⟨sv, v', _, e', rv, p3⟩ := brw_ok at2 (Pst.bnd p2)
  exact ⟨v', e', hb C W2 s2 σ H2 w v' a _ Q at2 (.rep rw') rv p3⟩

/-! ### arithmetic -/
instance (i j : Int) : Decidable (CDivW i j) := inferInstanceAs (Decidable (_ ∧ _))
instance (i j : Int) : Decidable (CMulW i j) := inferInstanceAs (Decidable (_ < _))
instance (i j : Int) : Decidable (CPow i j) := inferInstanceAs (Decidable (_ ∧ _ ∧ _))
def addP : PV → PV → Option PV
  | .int a, .int b => some (.int (a + b))
  | .str a, .str b => if a.length + b.length ≤ sizeLine then some (.str (a ++ b)) else none
  | .tup a, .tup b => if a.length + b.length ≤ sizeLine then some (.tup (a ++ b)) else none
  | .lst a, .lst b => if a.length + b.length ≤ sizeLine then some (.lst (a ++ b)) else none
  | _, _ => none
def subP : PV → PV → Option PV
  | .int a, .int b => some (.int (a - b))
  | _, _ => none
def mulP : PV → PV → Option PV
  | .int a, .int b => if CMulW a b then some (.int (a * b)) else none
  | .lst a, .int k => if (-(2 ^ 63) ≤ k ∧ k < 2 ^ 63) ∧ a.length * k.toNat ≤ sizeLine then some (.lst (List.replicate k.toNat a).flatten) else none
  | _, _ => none
def fdivP : PV → PV → Option PV
  | .int a, .int b => if CDivW a b then some (.int (a / b)) else none
  | _, _ => none
def modP : PV → PV → Option PV
  | .int a, .int b => if 0 < b then some (.int (a % b)) else none
  | _, _ => none
def powP : PV → PV → Option PV
  | .int a, .int b => if CPow a b then some (.int (a ^ b.toNat)) else none
  | _, _ => none
def rOr (r q : R2) : R2 := fun x y H Q => r x y H Q ∨ q x y H Q
theorem op_or2 {X : Cx} {f : Value → Value → Sem Value} {r q : R2} (h : OpR X f r) (k : OpR X f q) : OpR X f (rOr r q) := by
  intro pins s σ H x y v u Q I rx ry h'
  rcases h' with h' | h'
  · exact h pins s σ H x y v u Q I rx ry h'
  · exact k pins s σ H x y v u Q I rx ry h'
abbrev rStr2 : R2 := fun x y H Q => ∃ i j, x = .str i ∧ y = .str j ∧ i.length + j.length ≤ sizeLine ∧ Q (.str (i ++ j)) H
def rAddU (K : PySem.W.Frag) : R2 := rOr (rOr (rI0 fun i j => .int (i + j)) rStr2) (rOr (rCatA K) rCat)
theorem op_addU {X : Cx} : OpR X (binaryOp .Add) (rAddU X.K) := op_or2 (op_or2 op_add op_add_str) (op_or2 op_catA op_cat)
theorem bin_add : Bin (rAddU K) K (fun a b => lft (addP a b)) := by
  intro C W s σ H v w a b Q at' ra rb p
  obtain ⟨d, e, q⟩ := p.lft'
  have q0 := q W H (Vw.Le.refl W) at'
  unfold addP at e
  split at e
  · cases e
    cases ra.int
    cases rb.int
    exact .inl (.inl ⟨_, _, rfl, rfl, q0 _ (.int _)⟩)
  · split at e
    · cases e
      cases ra.str
      cases rb.str
      exact .inl (.inr ⟨_, _, rfl, rfl, by assumption, q0 _ (.str _)⟩)
    · cases e
  · split at e
    · rename_i hl
      cases e
      obtain ⟨x, vs, rfl, hx, hx2, rx⟩ := ra.tup at'.ok.sub
      obtain ⟨y, ws, rfl, hy, hy2, ry⟩ := rb.tup at'.ok.sub
      refine .inr (.inl ⟨x, y, vs, ws, rfl, rfl, hx2, hy2, by rw [rx.length, ry.length]; exact hl, fun e1 => ?_, fun _ e1 => ?_, fun _ _ p hp => ?_⟩)
      · subst e1
        cases rx
        exact q0 _ (.tup hy ry)
      · subst e1
        cases ry
        rw [List.append_nil] at q0
        exact q0 _ (.tup hx rx)
      · obtain ⟨W', l, at2, r2⟩ := at'.layT hp (rx.append ry)
        exact q W' _ l at2 _ r2
    · cases e
  · split at e
    · rename_i hl
      cases e
      obtain ⟨x, vs, rfl, hx, rx⟩ := ra.lst at'.ok.sub
      obtain ⟨y, ws, rfl, hy, ry⟩ := rb.lst at'.ok.sub
      refine .inr (.inr ⟨x, y, vs, ws, rfl, rfl, hx, hy, by rw [rx.length, ry.length]; exact hl, fun p hp => ?_⟩)
      obtain ⟨W', l, at2, r2⟩ := at'.layL hp (rx.append ry)
      exact q W' _ l at2 _ r2
    · cases e
  · cases e
theorem bin_sub : Bin (rI0 fun i j => .int (i - j)) K (fun a b => lft (subP a b)) := by
  intro C W s σ H v w a b Q at' ra rb p
  obtain ⟨d, e, q⟩ := p.lft'
  have q0 := q W H (Vw.Le.refl W) at'
  unfold subP at e
  split at e
  · cases e
    cases ra.int
    cases rb.int
    exact ⟨_, _, rfl, rfl, q0 _ (.int _)⟩
  · cases e
theorem bin_mul : Bin (rOr (rI CMulW fun i j => .int (i * j)) rRep) K (fun a b => lft (mulP a b)) := by
  intro C W s σ H v w a b Q at' ra rb p
  obtain ⟨d, e, q⟩ := p.lft'
  have q0 := q W H (Vw.Le.refl W) at'
  unfold mulP at e
  split at e
  · split at e
    · cases e
      cases ra.int
      cases rb.int
      exact .inl ⟨_, _, rfl, rfl, by assumption, q0 _ (.int _)⟩
    · cases e
  · split at e
    · rename_i hl
      cases e
      obtain ⟨x, vs, rfl, hx, rx⟩ := ra.lst at'.ok.sub
      cases rb.int
      refine .inr ⟨x, _, vs, rfl, rfl, hx, hl.1.1, hl.1.2, by rw [rx.length]; exact hl.2, fun p hp => ?_⟩
      obtain ⟨W', l, at2, r2⟩ := at'.layL hp (rx.rep _)
      exact q W' _ l at2 _ r2
    · cases e
  · cases e
theorem bin_fdiv : Bin (rI CDivW fun i j => .int (i / j)) K (fun a b => lft (fdivP a b)) := by
  intro C W s σ H v w a b Q at' ra rb p
  obtain ⟨d, e, q⟩ := p.lft'
  have q0 := q W H (Vw.Le.refl W) at'
  unfold fdivP at e
  split at e
  · split at e
    · cases e
      cases ra.int
      cases rb.int
      exact ⟨_, _, rfl, rfl, by assumption, q0 _ (.int _)⟩
    · cases e
  · cases e
theorem bin_mod : Bin (rI (fun _ j => 0 < j) fun i j => .int (i % j)) K (fun a b => lft (modP a b)) := by
  intro C W s σ H v w a b Q at' ra rb p
  obtain ⟨d, e, q⟩ := p.lft'
  have q0 := q W H (Vw.Le.refl W) at'
  unfold modP at e
  split at e
  · split at e
    · cases e
      cases ra.int
      cases rb.int
      exact ⟨_, _, rfl, rfl, by assumption, q0 _ (.int _)⟩
    · cases e
  · cases e
theorem bin_pow : Bin (rI CPow fun i j => .int (i ^ j.toNat)) K (fun a b => lft (powP a b)) := by
  intro C W s σ H v w a b Q at' ra rb p
  obtain ⟨d, e, q⟩ := p.lft'
  have q0 := q W H (Vw.Le.refl W) at'
  unfold powP at e
  split at e
  · split at e
    · cases e
      cases ra.int
      cases rb.int
      exact ⟨_, _, rfl, rfl, by assumption, q0 _ (.int _)⟩
    · cases e
  · cases e

/-! ### comparisons -/
def ordP (f : Int → Int → Bool) : PV → PV → Option PV
  | .int a, .int b => some (.bl (f a b))
  | _, _ => none
theorem bin_ord {f : Int → Int → Bool} : Bin (rI0 fun i j => .bl (f i j)) K (fun a b => lft (ordP f a b)) := by
  intro C W s σ H v w a b Q at' ra rb p
  obtain ⟨d, e, q⟩ := p.lft'
  have q0 := q W H (Vw.Le.refl W) at'
  unfold ordP at e
  split at e
  · cases e
    cases ra.int
    cases rb.int
    exact ⟨_, _, rfl, rfl, q0 _ (.bl _)⟩
  · cases e
def eqP (neg : Bool) (a b : PV) : Option PV := match a, b with
  | .str x, .str y => some (.bl (if neg then !(x == y) else x == y))
  | a, b => match a.toD, b.toD with
    | some x, some y => if SeqAt.shaped x = true ∧ SeqAt.shaped y = true then some (.bl (if neg then !PyData.eqv x y else PyData.eqv x y)) else none
    | _, _ => none
theorem bin_eq : Bin (rOr rEq (rEqD K)) K (fun a b => lft (eqP false a b)) := by
  intro C W s σ H v w a b Q at' ra rb p
  obtain ⟨d, e, q⟩ := p.lft'
  have q0 := q W H (Vw.Le.refl W) at'
  unfold eqP at e
  split at e
  · cases e
    cases ra.str
    cases rb.str
    exact .inl ⟨rfl, by rw [dec_str]; exact q0 _ (.bl _)⟩
  · split at e
    · rename_i x y hx hy
      split at e
      · rename_i hs
        cases e
        exact .inr ⟨x, y, ra.dp at'.ok.sub hx, rb.dp at'.ok.sub hy, hs.1, hs.2, q0 _ (.bl _)⟩
      · cases e
    · cases e
theorem bin_ne : Bin (rOr rNe (rNeD K)) K (fun a b => lft (eqP true a b)) := by
  intro C W s σ H v w a b Q at' ra rb p
  obtain ⟨d, e, q⟩ := p.lft'
  have q0 := q W H (Vw.Le.refl W) at'
  unfold eqP at e
  split at e
  · cases e
    cases ra.str
    cases rb.str
    exact .inl ⟨rfl, by rw [dec_str]; exact q0 _ (.bl _)⟩
  · split at e
    · rename_i x y hx hy
      split at e
      · rename_i hs
        cases e
        exact .inr ⟨x, y, ra.dp at'.ok.sub hx, rb.dp at'.ok.sub hy, hs.1, hs.2, q0 _ (.bl _)⟩
      · cases e
    · cases e
/-- a text among texts; data in a list of data -/
def strsOf : List PV → Option (List Str)
  | [] => some []
  | .str x :: r => (strsOf r).map (x :: ·)
  | _ :: _ => none
theorem strsOf_ok : ∀ {ds : List PV} {xs : List Str}, strsOf ds = some xs → ds = xs.map PV.str
  | [], xs, h => by cases h; rfl
  | .str x :: r, xs, h => by
    have h : (strsOf r).map (x :: ·) = some xs := h
    obtain ⟨ys, e, rfl⟩ := Option.map_eq_some_iff.mp h
    rw [strsOf_ok e]
    rfl
  | .non :: _, _, h => by cases h
  | .bl _ :: _, _, h => by cases h
  | .int _ :: _, _, h => by cases h
  | .tup _ :: _, _, h => by cases h
  | .lst _ :: _, _, h => by cases h
  | .scr _ :: _, _, h => by cases h
  | .hnd _ :: _, _, h => by cases h
theorem strsOf_map (xs : List Str) : strsOf (xs.map PV.str) = some xs := by
  induction xs with
  | nil => rfl
  | cons x r ih => show (strsOf (r.map PV.str)).map (x :: ·) = _; rw [ih]; rfl
theorem inV_strs (x : Str) (xs : List Str) : inV (.str x) (xs.map V.str) = decide (x ∈ xs) := by
  unfold inV
  rw [List.any_map]
  rw [Bool.eq_iff_iff, List.any_eq_true, decide_eq_true_eq]
  constructor
  · rintro ⟨y, hy, e⟩
    have e : (y == x) = true := e
    rw [← eq_of_beq e]
    exact hy
  · intro h
    exact ⟨x, h, by show (x == x) = true; exact beq_self_eq_true x⟩
theorem flat_strs (xs : List Str) : (xs.map V.str).all flatV = true := by
  rw [List.all_map, List.all_eq_true]
  intro x _
  rfl
def inP (neg : Bool) (a b : PV) : Option PV := match a, b with
  | .str x, .tup ys => (strsOf ys).map fun xs => .bl (if neg then !decide (x ∈ xs) else decide (x ∈ xs))
  | a, .lst ys => match a.toD, PV.toDs ys with
    | some d, some ds => if SeqAt.shaped d = true ∧ SeqAt.shaped (.list ds) = true then some (.bl (if neg then !ds.any fun z => PyData.eqv z d else ds.any fun z => PyData.eqv z d)) else none
    | _, _ => none
  | _, _ => none
theorem bin_in : Bin (rOr (rIn K false) (rInD K)) K (fun a b => lft (inP false a b)) := by
  intro C W s σ H v w a b Q at' ra rb p
  obtain ⟨d, e, q⟩ := p.lft'
  have q0 := q W H (Vw.Le.refl W) at'
  unfold inP at e
  split at e
  · rename_i x ys
    obtain ⟨xs, e1, rfl⟩ := Option.map_eq_some_iff.mp e
    cases ra.str
    obtain ⟨y, ws, rfl, hy, hy2, ry⟩ := rb.tup at'.ok.sub
    have ew := strsOf_ok e1
    subst ew
    have ew := ry.of_strs
    subst ew
    exact .inl ⟨y, _, rfl, .inr hy2, rfl, flat_strs xs, by rw [inV_strs]; exact q0 _ (.bl _)⟩
  · rename_i ys _
    split at e
    · rename_i d' ds hd hds
      split at e
      · rename_i hs
        cases e
        exact .inr ⟨d', ds, ra.dp at'.ok.sub hd, rb.dp at'.ok.sub (by rw [PV.toD, hds]; rfl), hs.1, hs.2, q0 _ (.bl _)⟩
      · cases e
    · cases e
  · cases e
theorem bin_notin : Bin (rOr (rIn K true) (rNotInD K)) K (fun a b => lft (inP true a b)) := by
  intro C W s σ H v w a b Q at' ra rb p
  obtain ⟨d, e, q⟩ := p.lft'
  have q0 := q W H (Vw.Le.refl W) at'
  unfold inP at e
  split at e
  · rename_i x ys
    obtain ⟨xs, e1, rfl⟩ := Option.map_eq_some_iff.mp e
    cases ra.str
    obtain ⟨y, ws, rfl, hy, hy2, ry⟩ := rb.tup at'.ok.sub
    have ew := strsOf_ok e1
    subst ew
    have ew := ry.of_strs
    subst ew
    exact .inl ⟨y, _, rfl, .inr hy2, rfl, flat_strs xs, by rw [inV_strs]; exact q0 _ (.bl _)⟩
  · rename_i ys _
    split at e
    · rename_i d' ds hd hds
      split at e
      · rename_i hs
        cases e
        exact .inr ⟨d', ds, ra.dp at'.ok.sub hd, rb.dp at'.ok.sub (by rw [PV.toD, hds]; rfl), hs.1, hs.2, q0 _ (.bl _)⟩
      · cases e
    · cases e
  · cases e

/-! ### subscripts -/
def ixP : PV → PV → Option PV
  | .lst xs, .int i => atI xs i
  | .tup xs, .int i => atI xs i
  | .str x, .int i => if x.length ≤ sizeLine then (atI x.cps.toList i).map fun c => .str ⟨#[c]⟩ else none
  | _, _ => none
theorem atI_rep {vs : List V} {ds : List PV} {i : Int} {d : PV} (r : Reps K W vs ds) (h : atI ds i = some d) : ∃ v, atI vs i = some v ∧ Rep K W v d := by
  unfold atI at h ⊢
  rw [r.length]
  obtain ⟨j, e, h⟩ := Option.bind_eq_some_iff.mp h
  obtain ⟨v, e2, r2⟩ := r.get h
  exact ⟨v, by rw [e]; exact e2, r2⟩
theorem bin_ix : Bin (rIx K) K (fun a b => lft (ixP a b)) := by
  intro C W s σ H v w a b Q at' ra rb p
  obtain ⟨d, e, q⟩ := p.lft'
  have q0 := q W H (Vw.Le.refl W) at'
  unfold ixP at e
  split at e
  · cases rb.int
    obtain ⟨x, vs, rfl, hx, rx⟩ := ra.lst at'.ok.sub
    obtain ⟨v, e1, r1⟩ := atI_rep rx e
    exact .inl ⟨x, vs, _, v, rfl, rfl, SqL.of hx, e1, q0 _ r1⟩
  · cases rb.int
    obtain ⟨x, vs, rfl, hx, hx2, rx⟩ := ra.tup at'.ok.sub
    obtain ⟨v, e1, r1⟩ := atI_rep rx e
    exact .inr (.inl ⟨x, vs, _, v, rfl, rfl, hx2, e1, q0 _ r1⟩)
  · split at e
    · cases rb.int
      cases ra.str
      obtain ⟨c, e1, rfl⟩ := Option.map_eq_some_iff.mp e
      exact .inr (.inr ⟨_, _, c, rfl, rfl, by assumption, e1, q0 _ (.str _)⟩)
    · cases e
  · cases e
end
end Dn
/-! Den3: tests, arguments, displays, slices, built-ins, methods, handles. -/
namespace Dn
open PySem L2
section
variable {K : PySem.W.Frag} {C : Ctx} {W W' : Vw} {σ : L2.St} {H : Hp} {s : S} {v w : V} {d : PV} {Q : VK} {i : Nat} {ca cb : M PV}

/-! ### tests -/
def asB (c : M PV) : M Bool := bnd c fun d => match d with
  | .bl b => ret b
  | _ => stuck
theorem den_asB {QB : Bool → Hp → Prop} (h : denT K (asB ca) σ H QB) : den K ca σ H (fun x H1 => ∃ c, x = .bl c ∧ QB c H1) := by
  obtain ⟨C, W, s, at', p⟩ := h
  refine ⟨C, W, s, at', (Pst.bnd p).imp fun a s1 W1 H1 l1 at1 p1 v rv => ?_⟩
  cases a <;> try exact p1.elim
  cases rv
  exact ⟨_, rfl, p1 W1 H1 (Vw.Le.refl _) at1⟩
def andT (a b : M Bool) : M Bool := bnd a fun x => if x = true then b else ret false
def orT (a b : M Bool) : M Bool := bnd a fun x => if x = true then ret true else b
def notT (a : M Bool) : M Bool := bnd a fun x => ret (!x)
def iteT (t : M Bool) (a b : M PV) : M PV := bnd t fun x => if x = true then a else b
theorem den_and {a b : M Bool} {QB : Bool → Hp → Prop} (h : denT K (andT a b) σ H QB) : tAnd (denT K a) (denT K b) σ H QB := by
  obtain ⟨C, W, s, at', p⟩ := h
  refine ⟨C, W, s, at', (Pst.bnd p).imp fun x s1 W1 H1 l1 at1 p1 => ?_⟩
  cases x with
  | true => exact ⟨C, W1, s1, at1, p1⟩
  | false => exact p1 W1 H1 (Vw.Le.refl _) at1
theorem den_or {a b : M Bool} {QB : Bool → Hp → Prop} (h : denT K (orT a b) σ H QB) : tOr (denT K a) (denT K b) σ H QB := by
  obtain ⟨C, W, s, at', p⟩ := h
  refine ⟨C, W, s, at', (Pst.bnd p).imp fun x s1 W1 H1 l1 at1 p1 => ?_⟩
  cases x with
  | false => exact ⟨C, W1, s1, at1, p1⟩
  | true => exact p1 W1 H1 (Vw.Le.refl _) at1
theorem den_not {a : M Bool} {QB : Bool → Hp → Prop} (h : denT K (notT a) σ H QB) : tNot (denT K a) σ H QB := by
  obtain ⟨C, W, s, at', p⟩ := h
  exact ⟨C, W, s, at', (Pst.bnd p).imp fun x s1 W1 H1 l1 at1 p1 => p1 W1 H1 (Vw.Le.refl _) at1⟩
theorem den_ite {t : M Bool} (h : den K (iteT t ca cb) σ H Q) : tIf (denT K t) (den K ca) (den K cb) σ H Q := by
  obtain ⟨C, W, s, at', p⟩ := h
  refine ⟨C, W, s, at', (Pst.bnd p).imp fun x s1 W1 H1 l1 at1 p1 => ?_⟩
  cases x with
  | true => exact ⟨C, W1, s1, at1, p1⟩
  | false => exact ⟨C, W1, s1, at1, p1⟩
/-- a test's answer as a value -/
def valT (t : M Bool) : M PV := bnd t fun b => ret (.bl b)
/-! and, or of truth values, as values -/
def andV (a b : M PV) : M PV := bnd a fun x => match x with
  | .bl true => b
  | .bl false => ret (.bl false)
  | _ => stuck
def orV (a b : M PV) : M PV := bnd a fun x => match x with
  | .bl true => ret (.bl true)
  | .bl false => b
  | _ => stuck
def notV (a : M PV) : M PV := bnd a fun x => match x with
  | .bl b => ret (.bl (!b))
  | _ => stuck
theorem den_andV (h : den K (andV ca cb) σ H Q) : tAndV (den K ca) (den K cb) σ H Q := by
  obtain ⟨C, W, s, at', p⟩ := h
  refine ⟨C, W, s, at', (Pst.bnd p).imp fun x s1 W1 H1 l1 at1 p1 v rv => ?_⟩
  cases x <;> try exact p1.elim
  rename_i b
  cases rv
  refine ⟨b, rfl, ?_⟩
  cases b with
  | true => exact ⟨C, W1, s1, at1, p1⟩
  | false => exact p1 W1 H1 (Vw.Le.refl _) at1 _ (.bl _)
theorem den_orV (h : den K (orV ca cb) σ H Q) : tOrV (den K ca) (den K cb) σ H Q := by
  obtain ⟨C, W, s, at', p⟩ := h
  refine ⟨C, W, s, at', (Pst.bnd p).imp fun x s1 W1 H1 l1 at1 p1 v rv => ?_⟩
  cases x <;> try exact p1.elim
  rename_i b
  cases rv
  refine ⟨b, rfl, ?_⟩
  cases b with
  | false => exact ⟨C, W1, s1, at1, p1⟩
  | true => exact p1 W1 H1 (Vw.Le.refl _) at1 _ (.bl _)
theorem den_notV (h : den K (notV ca) σ H Q) : tNotV (den K ca) σ H Q := by
  obtain ⟨C, W, s, at', p⟩ := h
  refine ⟨C, W, s, at', (Pst.bnd p).imp fun x s1 W1 H1 l1 at1 p1 v rv => ?_⟩
  cases x <;> try exact p1.elim
  cases rv
  exact ⟨_, rfl, p1 W1 H1 (Vw.Le.refl _) at1 _ (.bl _)⟩
/-! is None -/
def isN (neg : Bool) (a : M PV) : M PV := bnd a fun x => match x with
  | .non => ret (.bl (!neg))
  | _ => ret (.bl neg)
theorem Rep.isnon (r : Rep K W v d) : decide (v = .non) = (match d with | .non => true | _ => false) := by
  cases r <;> simp
theorem den_isN (h : den K (isN false ca) σ H Q) : tIsN (den K ca) σ H Q := by
  obtain ⟨C, W, s, at', p⟩ := h
  refine ⟨C, W, s, at', (Pst.bnd p).imp fun x s1 W1 H1 l1 at1 p1 v rv => ?_⟩
  show Q (V.bl (decide (v = V.non))) H1
  rw [rv.isnon]
  cases x <;> exact p1 W1 H1 (Vw.Le.refl _) at1 _ (.bl _)
theorem den_notN (h : den K (isN true ca) σ H Q) : tNotN (den K ca) σ H Q := by
  obtain ⟨C, W, s, at', p⟩ := h
  refine ⟨C, W, s, at', (Pst.bnd p).imp fun x s1 W1 H1 l1 at1 p1 v rv => ?_⟩
  show Q (V.bl (!decide (v = V.non))) H1
  rw [rv.isnon]
  cases x <;> exact p1 W1 H1 (Vw.Le.refl _) at1 _ (.bl _)

/-! ### arguments, displays -/
def argN : M (List PV) := ret []
def argC (a : M PV) (r : M (List PV)) : M (List PV) := bnd a fun d => bnd r fun ds => ret (d :: ds)
theorem den_argN {QA : List V → Hp → Prop} (h : denA K argN σ H QA) : tNil σ H QA := by
  obtain ⟨C, W, s, at', p⟩ := h
  exact p W H (Vw.Le.refl _) at' _ .nil
theorem den_argC {r : M (List PV)} {QA : List V → Hp → Prop} (h : denA K (argC ca r) σ H QA) : tCons (den K ca) (denA K r) σ H QA := by
  obtain ⟨C, W, s, at', p⟩ := h
  refine ⟨C, W, s, at', (Pst.bnd p).imp fun d s1 W1 H1 l1 at1 p1 v rv => ⟨C, W1, s1, at1, (Pst.bnd p1).imp fun ds s2 W2 H2 l2 at2 p2 vs rvs => ?_⟩⟩
  exact p2 W2 H2 (Vw.Le.refl _) at2 _ (.cons (rv.mono l2) rvs)
def fits (c : M (List PV)) : M (List PV) := bnd c fun ds => if ds.length ≤ sizeLine then ret ds else stuck
def tupM (c : M (List PV)) : M PV := bnd (fits c) fun ds => ret (.tup ds)
def lstM (c : M (List PV)) : M PV := bnd c fun ds => ret (.lst ds)
theorem den_tup {c : M (List PV)} (h : den K (tupM c) σ H Q) : tTup (denA K c) σ H Q := by
  obtain ⟨C, W, s, at', p⟩ := h
  refine ⟨C, W, s, at', (Pst.bnd (Pst.bnd p)).imp fun ds s1 W1 H1 l1 at1 p1 vs rvs => ?_⟩
  split at p1
  · rename_i hl
    refine ⟨by rw [rvs.length]; exact hl, fun q hq => ?_⟩
    have p2 := p1 W1 H1 (Vw.Le.refl _) at1
    obtain ⟨W2, l2, at2, r2⟩ := at1.layT hq rvs
    exact p2 W2 _ l2 at2 _ r2
  · exact p1.elim
/-- a new list, nobody's yet -/
theorem denO_lst {c : M (List PV)} (h : denO K (fits c) σ H Q) : tLst (denA K c) σ H Q := by
  obtain ⟨C, W, s, at', p⟩ := h
  refine ⟨C, W, s, at', (Pst.bnd p).imp fun ds s1 W1 H1 l1 at1 p1 vs rvs => ?_⟩
  split at p1
  · rename_i hl
    exact ⟨by rw [rvs.length]; exact hl, fun q hq => p1 W1 H1 (Vw.Le.refl _) at1 q vs hq rvs⟩
  · exact p1.elim
/-- .. frozen at once -/
theorem denO_den {c : M (List PV)} (h : den K (lstM c) σ H Q) : denO K c σ H Q := by
  obtain ⟨C, W, s, at', p⟩ := h
  refine ⟨C, W, s, at', (Pst.bnd p).imp fun ds s1 W1 H1 l1 at1 p1 q vs hq rvs => ?_⟩
  obtain ⟨W2, l2, at2, r2⟩ := at1.layL hq rvs
  exact p1 W2 _ l2 at2 _ r2

/-! ### slices -/
def cutP (xs : List PV) (lo hi : Option Int) : List PV := (xs.drop (HT.sIx xs.length 0 lo)).take (HT.sIx xs.length xs.length hi - HT.sIx xs.length 0 lo)
def cutI (xs : List Int) (lo hi : Option Int) : List Int := (xs.drop (HT.sIx xs.length 0 lo)).take (HT.sIx xs.length xs.length hi - HT.sIx xs.length 0 lo)
theorem Reps.cut {vs : List V} {ds : List PV} (r : Reps K W vs ds) (lo hi : Option Int) : Reps K W (cutV vs lo hi) (cutP ds lo hi) := by
  unfold cutV cutP
  rw [r.length]
  exact (r.drop _).take _
theorem cutV_ints (ns : List Int) (lo hi : Option Int) : cutV (ns.map V.int) lo hi = (cutI ns lo hi).map V.int := by
  unfold cutV cutI
  rw [List.length_map, ← List.map_drop, ← List.map_take]
def denP (K : PySem.W.Frag) (c : M (Option Int)) : TO := fun σ H Q => ∃ C W s, At K C W s σ H ∧ Pst K C W σ (c s) (fun o _ _ H' => Q o H')
def parN : M (Option Int) := ret none
def parS (c : M PV) : M (Option Int) := bnd c fun d => match d with
  | .int i => ret (some i)
  | _ => stuck
theorem den_parN {QO : Option Int → Hp → Prop} (h : denP K parN σ H QO) : tNoPart σ H QO := by
  obtain ⟨C, W, s, at', p⟩ := h
  exact p W H (Vw.Le.refl _) at'
theorem den_parS {QO : Option Int → Hp → Prop} (h : denP K (parS ca) σ H QO) : tPart (den K ca) σ H QO := by
  obtain ⟨C, W, s, at', p⟩ := h
  refine ⟨C, W, s, at', (Pst.bnd p).imp fun d s1 W1 H1 l1 at1 p1 v rv => ?_⟩
  cases d <;> try exact p1.elim
  cases rv
  exact ⟨_, rfl, p1 W1 H1 (Vw.Le.refl _) at1⟩
def slP : PV → Option Int → Option Int → Option PV
  | .lst xs, lo, hi => some (.lst (cutP xs lo hi))
  | .tup xs, lo, hi => some (.tup (cutP xs lo hi))
  | .scr xs, lo, hi => some (.lst ((cutI xs lo hi).map .int))
  | .str x, lo, hi => if x.length ≤ sizeLine then some (.str (cutS x lo hi)) else none
  | _, _, _ => none
def slM (c : M PV) (lo hi : M (Option Int)) : M PV := bnd c fun d => bnd lo fun a => bnd hi fun b => lft (slP d a b)
def rSlU (K : PySem.W.Frag) : V → Option Int → Option Int → Hp → VK → Prop := fun x lo hi H Q => (rSlL K x lo hi H Q ∨ rSlA K x lo hi H Q) ∨ rSlS x lo hi H Q
theorem sl_u {X : Cx} : SlR X (rSlU X.K) := SlR.or (SlR.or sl_list sl_tupA) sl_str
theorem cut_all {vs : List V} {lo hi : Option Int} (h : HT.sIx vs.length 0 lo = 0 ∧ HT.sIx vs.length vs.length hi = vs.length) : cutV vs lo hi = vs := by
  unfold cutV
  rw [h.1, h.2, List.drop_zero, Nat.sub_zero, List.take_length]
theorem den_sl {lo hi : M (Option Int)} (h : den K (slM ca lo hi) σ H Q) : tSl (rSlU K) (den K ca) (denP K lo) (denP K hi) σ H Q := by
  obtain ⟨C, W, s, at', p⟩ := h
  refine ⟨C, W, s, at', (Pst.bnd p).imp fun d s1 W1 H1 l1 at1 p1 v rv => ⟨C, W1, s1, at1, (Pst.bnd p1).imp fun a s2 W2 H2 l2 at2 p2 => ⟨C, W2, s2, at2, (Pst.bnd p2).imp fun b s3 W3 H3 l3 at3 p3 => ?_⟩⟩⟩
  obtain ⟨e', he, q⟩ := p3.lft'
  have q0 := q W3 H3 (Vw.Le.refl W3) at3
  have rv := rv.mono (l2.trans l3)
  unfold slP at he
  split at he
  · cases he
    cases rv with
    | lst hx rx =>
      refine .inl (.inl ⟨_, _, rfl, SqL.of (at3.ok.sub _ _ hx), fun p hp => ?_⟩)
      obtain ⟨W4, l4, at4, r4⟩ := at3.layL hp (rx.cut a b)
      exact q W4 _ l4 at4 _ r4
  · cases he
    cases rv with
    | @tup x vs _ hx rx =>
      refine .inl (.inr ⟨_, _, rfl, same_t at3.ok.sub hx, fun e => ?_, fun _ p hp => ?_⟩)
      · refine q0 _ (.tup hx ?_)
        have := rx.cut a b
        rw [cut_all e] at this
        exact this
      · obtain ⟨W4, l4, at4, r4⟩ := at3.layT hp (rx.cut a b)
        exact q W4 _ l4 at4 _ r4
  · cases he
    cases rv with
    | scr hx =>
      refine .inl (.inl ⟨_, _, rfl, at3.ok.sub.seq hx, fun p hp => ?_⟩)
      rw [cutV_ints]
      obtain ⟨W4, l4, at4, r4⟩ := at3.layL hp (Reps.ints (K := K) (W := W3) _)
      exact q W4 _ l4 at4 _ r4
  · split at he
    · cases he
      cases rv
      exact .inr ⟨_, rfl, by assumption, q0 _ (.str _)⟩
    · cases he
  · cases he
/-- xs[::-1] -/
def revM (c : M PV) : M PV := bnd c fun d => match d with
  | .lst xs => ret (.lst xs.reverse)
  | _ => stuck
theorem den_rev (h : den K (revM ca) σ H Q) : tRevL K (den K ca) σ H Q := by
  obtain ⟨C, W, s, at', p⟩ := h
  refine ⟨C, W, s, at', (Pst.bnd p).imp fun d s1 W1 H1 l1 at1 p1 v rv => ?_⟩
  cases d <;> try exact p1.elim
  cases rv with
  | lst hx rx =>
    refine ⟨_, _, rfl, SqL.of (at1.ok.sub _ _ hx), fun p hp => ?_⟩
    obtain ⟨W4, l4, at4, r4⟩ := at1.layL hp rx.rev
    exact p1 W4 _ l4 at4 _ r4

/-! ### built-ins of one argument -/
abbrev Fn1 (r : List V → Hp → VK → Prop) (K : PySem.W.Frag) (f : PV → M PV) : Prop := ∀ (C : Ctx) (W : Vw) (s : S) (σ : L2.St) (H : Hp) (v : V) (a : PV) (Q : VK), At K C W s σ H → RdV K W H v a → Pst K C W σ (f a s) (WantV K Q) → r [v] H Q
abbrev Fn1O (r : List V → Hp → VK → Prop) (K : PySem.W.Frag) (f : PV → M (List PV)) : Prop := ∀ (C : Ctx) (W : Vw) (s : S) (σ : L2.St) (H : Hp) (v : V) (a : PV) (Q : VK), At K C W s σ H → RdV K W H v a → Pst K C W σ (f a s) (WantL K Q) → r [v] H Q
theorem den_fn1 {r : List V → Hp → VK → Prop} {f : PV → M PV} (hf : Fn1 r K f) (h : den K (bnd ca f) σ H Q) : tCB r (tCons (den K ca) tNil) σ H Q := by
  obtain ⟨C, W, s, at', p⟩ := h
  exact ⟨C, W, s, at', (Pst.bnd p).imp fun a s1 W1 H1 l1 at1 p1 v rv => hf C W1 s1 σ H1 v a Q at1 (.rep rv) p1⟩
theorem den_fn1B {r : List V → Hp → VK → Prop} {f : PV → M PV} (hf : Fn1 r K f) (h : den K (bnd (brw i) f) σ H Q) : tCB r (tCons (tVar i) tNil) σ H Q := by
  obtain ⟨C, W, s, at', p⟩ := h
  obtain ⟨sv, v', _, e', rv, p3⟩ := brw_ok at' (Pst.bnd p)
  exact ⟨v', e', hf C W s σ H v' _ Q at' rv p3⟩
theorem denO_fn1 {r : List V → Hp → VK → Prop} {f : PV → M (List PV)} (hf : Fn1O r K f) (h : denO K (bnd ca f) σ H Q) : tCB r (tCons (den K ca) tNil) σ H Q := by
  obtain ⟨C, W, s, at', p⟩ := h
  exact ⟨C, W, s, at', (Pst.bnd p).imp fun a s1 W1 H1 l1 at1 p1 v rv => hf C W1 s1 σ H1 v a Q at1 (.rep rv) p1⟩
def lenP : PV → Option PV
  | .lst xs => some (.int xs.length)
  | .tup xs => some (.int xs.length)
  | .scr xs => some (.int xs.length)
  | .str x => if x.length ≤ sizeLine then some (.int x.length) else none
  | _ => none
abbrev rLen (K : PySem.W.Frag) : List V → Hp → VK → Prop := fun xs H Q => ∃ x n, xs = [x] ∧ LenV K x H n ∧ Q (.int n) H
theorem fn_len : Fn1 (rLen K) K (fun a => lft (lenP a)) := by
  intro C W s σ H v a Q at' ra p
  obtain ⟨d, e, q⟩ := p.lft'
  have q0 := q W H (Vw.Le.refl W) at'
  unfold lenP at e
  split at e
  · cases e
    obtain ⟨x, vs, rfl, hx, rx⟩ := ra.lst at'.ok.sub
    exact ⟨_, _, rfl, .inl ⟨_, SqL.of hx, rfl⟩, q0 _ (by rw [rx.length]; exact .int _)⟩
  · cases e
    obtain ⟨x, vs, rfl, hx, hx2, rx⟩ := ra.tup at'.ok.sub
    exact ⟨_, _, rfl, .inr ⟨_, hx2, rfl⟩, q0 _ (by rw [rx.length]; exact .int _)⟩
  · cases e
    obtain ⟨x, rfl, hx⟩ := ra.scr at'.ok.sub
    exact ⟨_, _, rfl, .inl ⟨_, hx, rfl⟩, q0 _ (by rw [List.length_map]; exact .int _)⟩
  · split at e
    · cases e
      cases ra.str
      exact ⟨_, _, rfl, ⟨by assumption, rfl⟩, q0 _ (.int _)⟩
    · cases e
  · cases e
def absP : PV → Option PV
  | .int i => some (.int (if i < 0 then -i else i))
  | _ => none
theorem fn_abs : Fn1 (fun xs H Q => ∃ i, xs = [.int i] ∧ Q (.int (if i < 0 then -i else i)) H) K (fun a => lft (absP a)) := by
  intro C W s σ H v a Q at' ra p
  obtain ⟨d, e, q⟩ := p.lft'
  have q0 := q W H (Vw.Le.refl W) at'
  unfold absP at e
  split at e
  · cases e
    cases ra.int
    exact ⟨_, rfl, q0 _ (.int _)⟩
  · cases e
def intP : PV → Option PV
  | .int i => some (.int i)
  | _ => none
theorem fn_int : Fn1 (fun xs H Q => (∃ i, xs = [.int i] ∧ Q (.int i) H) ∨ ∃ k, xs = [.bl k] ∧ Q (.int (if k then 1 else 0)) H) K (fun a => lft (intP a)) := by
  intro C W s σ H v a Q at' ra p
  obtain ⟨d, e, q⟩ := p.lft'
  have q0 := q W H (Vw.Le.refl W) at'
  unfold intP at e
  split at e
  · cases e
    cases ra.int
    exact .inl ⟨_, rfl, q0 _ (.int _)⟩
  · cases e
def blsOf : List PV → Option (List Bool)
  | [] => some []
  | .bl x :: r => (blsOf r).map (x :: ·)
  | _ :: _ => none
theorem blsOf_ok : ∀ {ds : List PV} {xs : List Bool}, blsOf ds = some xs → ds = xs.map PV.bl
  | [], xs, h => by cases h; rfl
  | .bl x :: r, xs, h => by
    have h : (blsOf r).map (x :: ·) = some xs := h
    obtain ⟨ys, e, rfl⟩ := Option.map_eq_some_iff.mp h
    rw [blsOf_ok e]
    rfl
  | .non :: _, _, h => by cases h
  | .str _ :: _, _, h => by cases h
  | .int _ :: _, _, h => by cases h
  | .tup _ :: _, _, h => by cases h
  | .lst _ :: _, _, h => by cases h
  | .scr _ :: _, _, h => by cases h
  | .hnd _ :: _, _, h => by cases h
theorem blsOf_map (xs : List Bool) : blsOf (xs.map PV.bl) = some xs := by
  induction xs with
  | nil => rfl
  | cons x r ih => show (blsOf (r.map PV.bl)).map (x :: ·) = _; rw [ih]; rfl
def anyP : PV → Option PV
  | .lst xs => (blsOf xs).map fun bs => .bl (bs.any id)
  | _ => none
def allP : PV → Option PV
  | .lst xs => (blsOf xs).map fun bs => .bl (bs.all id)
  | _ => none
theorem fn_any : Fn1 (rAny K) K (fun a => lft (anyP a)) := by
  intro C W s σ H v a Q at' ra p
  obtain ⟨d, e, q⟩ := p.lft'
  have q0 := q W H (Vw.Le.refl W) at'
  unfold anyP at e
  split at e
  · obtain ⟨bs, e1, rfl⟩ := Option.map_eq_some_iff.mp e
    obtain ⟨x, vs, rfl, hx, rx⟩ := ra.lst at'.ok.sub
    have ew := blsOf_ok e1
    subst ew
    have ew := rx.of_bls
    subst ew
    exact ⟨x, bs, rfl, SqL.of hx, q0 _ (.bl _)⟩
  · cases e
theorem fn_all : Fn1 (rAll K) K (fun a => lft (allP a)) := by
  intro C W s σ H v a Q at' ra p
  obtain ⟨d, e, q⟩ := p.lft'
  have q0 := q W H (Vw.Le.refl W) at'
  unfold allP at e
  split at e
  · obtain ⟨bs, e1, rfl⟩ := Option.map_eq_some_iff.mp e
    obtain ⟨x, vs, rfl, hx, rx⟩ := ra.lst at'.ok.sub
    have ew := blsOf_ok e1
    subst ew
    have ew := rx.of_bls
    subst ew
    exact ⟨x, bs, rfl, SqL.of hx, q0 _ (.bl _)⟩
  · cases e
def listP : PV → Option (List PV)
  | .lst xs => some xs
  | .tup xs => some xs
  | .scr xs => some (xs.map .int)
  | _ => none
abbrev rListOf (K : PySem.W.Frag) : List V → Hp → VK → Prop := fun xs H Q => ∃ p ys, xs = [.ref p] ∧ (SqL K H p ys ∨ SqT K H p ys) ∧ ∀ l, H l = none → Q (.ref l) (upd H l (.lst ys))
theorem fn_list : Fn1O (rListOf K) K (fun a => lft (listP a)) := by
  intro C W s σ H v a Q at' ra p
  obtain ⟨d, e, q⟩ := p.lft'
  have q0 := q W H (Vw.Le.refl W) at'
  unfold listP at e
  split at e
  · cases e
    obtain ⟨x, vs, rfl, hx, rx⟩ := ra.lst at'.ok.sub
    exact ⟨x, vs, rfl, .inl (SqL.of hx), fun l hl => q0 l vs hl rx⟩
  · cases e
    obtain ⟨x, vs, rfl, hx, hx2, rx⟩ := ra.tup at'.ok.sub
    exact ⟨x, vs, rfl, .inr hx2, fun l hl => q0 l vs hl rx⟩
  · cases e
    obtain ⟨x, rfl, hx⟩ := ra.scr at'.ok.sub
    exact ⟨x, _, rfl, .inl hx, fun l hl => q0 l _ hl (Reps.ints _)⟩
  · cases e
def tupleP : PV → Option PV
  | .lst xs => some (.tup xs)
  | .tup xs => some (.tup xs)
  | _ => none
abbrev rTupOf (K : PySem.W.Frag) : List V → Hp → VK → Prop := fun xs H Q => ∃ p ys, xs = [.ref p] ∧ ((SqL K H p ys ∧ ∀ l, H l = none → Q (.ref l) (upd H l (.tup ys))) ∨ (SqT K H p ys ∧ Q (.ref p) H))
theorem fn_tuple : Fn1 (rTupOf K) K (fun a => lft (tupleP a)) := by
  intro C W s σ H v a Q at' ra p
  obtain ⟨d, e, q⟩ := p.lft'
  have q0 := q W H (Vw.Le.refl W) at'
  unfold tupleP at e
  split at e
  · cases e
    obtain ⟨x, vs, rfl, hx, rx⟩ := ra.lst at'.ok.sub
    refine ⟨x, vs, rfl, .inl ⟨SqL.of hx, fun l hl => ?_⟩⟩
    obtain ⟨W4, l4, at4, r4⟩ := at'.layT hl rx
    exact q W4 _ l4 at4 _ r4
  · cases e
    obtain ⟨x, vs, rfl, hx, hx2, rx⟩ := ra.tup at'.ok.sub
    exact ⟨x, vs, rfl, .inr ⟨hx2, q0 _ (.tup hx rx)⟩⟩
  · cases e

/-! ### methods -/
def joinP (a : Str) : PV → Option PV
  | .lst ys => match strsOf ys with
    | some zs => if (zs.map (·.length)).sum + zs.length * a.length ≤ 16777216 then some (.str (Txt.join a zs)) else none
    | none => none
  | _ => none
def joinM (ca cb : M PV) : M PV := bnd ca fun a => match a with
  | .str x => bnd cb fun b => lft (joinP x b)
  | _ => stuck
abbrev rJoin (K : PySem.W.Frag) : V → List V → Hp → VK → Prop := fun x xs H Q => ∃ a p, ∃ ys : List Str, x = .str a ∧ xs = [.ref p] ∧ (SqL K H p (ys.map V.str) ∨ SqT K H p (ys.map V.str)) ∧ (ys.map (·.length)).sum + ys.length * a.length ≤ 16777216 ∧ Q (.str (Txt.join a ys)) H
theorem den_join (h : den K (joinM ca cb) σ H Q) : tM1 (rJoin K) (den K ca) (den K cb) σ H Q := by
  obtain ⟨C, W, s, at', p⟩ := h
  refine ⟨C, W, s, at', (Pst.bnd p).imp fun a s1 W1 H1 l1 at1 p1 v rv => ?_⟩
  cases a <;> try exact p1.elim
  rename_i x
  cases rv
  refine ⟨⟨_, rfl⟩, C, W1, s1, at1, (Pst.bnd p1).imp fun b s2 W2 H2 l2 at2 p2 w rw' => ?_⟩
  obtain ⟨d, e, q⟩ := p2.lft'
  have q0 := q W2 H2 (Vw.Le.refl W2) at2
  unfold joinP at e
  split at e
  · split at e
    · rename_i zs e1
      split at e
      · cases e
        cases rw' with
        | lst hx rx =>
          have ew := strsOf_ok e1
          subst ew
          have ew := rx.of_strs
          subst ew
          exact ⟨_, _, zs, rfl, rfl, .inl (SqL.of (at2.ok.sub _ _ hx)), by assumption, q0 _ (.str _)⟩
      · cases e
    · cases e
  · cases e
/-- x.append(e), x a name that owns its list -/
def chkO (i : Nat) : M Unit := fun s => match s.env[i]? with
  | some (some (.own _)) => .ok () s
  | _ => .stk
theorem chkO_ok {α : Type} {f : Unit → M α} {Q : α → S → Vw → Hp → Prop} (h : At K C W s σ H) (p : Pst K C W σ (bnd (chkO i) f s) Q) : (∃ xs, s.env[i]? = some (some (.own xs))) ∧ Pst K C W σ (f () s) Q := by
  unfold bnd chkO at p
  split at p
  · rename_i a s' e
    split at e
    · rename_i xs he
      cases e
      exact ⟨⟨_, he⟩, p⟩
    · cases e
  · exact p.elim
  · exact p.elim
def pushM (i : Nat) (d : PV) : M PV := fun s => match s.env[i]? with
  | some (some (.own xs)) => if xs.length < sizeLine then .ok .non { s with env := s.env.set i (some (.own (xs ++ [d]))) } else .stk
  | _ => .stk
def appM (i : Nat) (ca : M PV) : M PV := bnd (chkO i) fun _ => bnd ca fun d => pushM i d
theorem den_app (h : den K (appM i ca) σ H Q) : tBM K "list" rAppend (tVar i) (tCons (den K ca) tNil) σ H Q := by
  obtain ⟨C, W, s, at', p⟩ := h
  obtain ⟨⟨xs, e⟩, p⟩ := chkO_ok at' p
  obtain ⟨a, vs, e1, ow, e2, r⟩ := at'.own i xs e
  refine ⟨.ref a, e1, .inl ⟨rfl, vs, SqL.of e2⟩, C, W, s, at', (Pst.bnd p).imp fun d s1 W1 H1 l1 at1 p1 v rv => ?_⟩
  unfold pushM at p1
  split at p1
  · rename_i ys he
    split at p1
    · rename_i hl
      obtain ⟨a', vs', f1, ow', f2, r'⟩ := at1.own i ys he
      rw [e1] at f1
      cases f1
      refine ⟨a, vs', v, rfl, rfl, f2, by rw [r'.length]; exact hl, ?_⟩
      exact p1 W1 _ (Vw.Le.refl _) (at1.change he e1 (r'.append (.cons rv .nil))) _ .non
    · exact p1.elim
  · exact p1.elim
def takeM (i : Nat) (d : PV) : M PV := fun s => match d, s.env[i]? with
  | .int k, some (some (.own xs)) => if -(2 ^ 63) ≤ k ∧ k < 2 ^ 63 then (match seqIndex? k xs.length with
    | some j => match xs[j]? with
      | some y => .ok y { s with env := s.env.set i (some (.own (xs.eraseIdx j))) }
      | none => .stk
    | none => .stk) else .stk
  | _, _ => .stk
def popM (i : Nat) (ca : M PV) : M PV := bnd (chkO i) fun _ => bnd ca fun d => takeM i d
theorem den_pop (h : den K (popM i ca) σ H Q) : tBM K "list" rPopAt (tVar i) (tCons (den K ca) tNil) σ H Q := by
  obtain ⟨C, W, s, at', p⟩ := h
  obtain ⟨⟨xs, e⟩, p⟩ := chkO_ok at' p
  obtain ⟨a, vs, e1, ow, e2, r⟩ := at'.own i xs e
  refine ⟨.ref a, e1, .inl ⟨rfl, vs, SqL.of e2⟩, C, W, s, at', (Pst.bnd p).imp fun d s1 W1 H1 l1 at1 p1 v rv => ?_⟩
  unfold takeM at p1
  split at p1
  · rename_i k ys he
    split at p1
    · rename_i hk
      split at p1
      · rename_i j hj
        split at p1
        · rename_i y hy
          cases rv
          obtain ⟨a', vs', f1, ow', f2, r'⟩ := at1.own i ys he
          rw [e1] at f1
          cases f1
          obtain ⟨y', hy', ry⟩ := r'.get hy
          exact ⟨a, vs', k, j, y', rfl, rfl, f2, hk.1, hk.2, by rw [r'.length]; exact hj, hy', p1 W1 _ (Vw.Le.refl _) (at1.change he e1 (r'.erase j)) _ ry⟩
        · exact p1.elim
      · exact p1.elim
    · exact p1.elim
  · exact p1.elim
end

/-! ### handles -/
def valP (kvs : List (Key × PV)) (k : Key) : Option PV := (kvs.find? fun kv => decide (kv.1 = k)).map (·.2)
def putP (kvs : List (Key × PV)) (k : Key) (v : PV) : List (Key × PV) :=
  if (kvs.any fun kv => decide (kv.1 = k)) = true then kvs.map (fun kv => if kv.1 = k then (kv.1, v) else kv) else kvs ++ [(k, v)]
def mergeP (kvs more : List (Key × PV)) : List (Key × PV) := more.foldl (fun acc kv => putP acc kv.1 kv.2) kvs
section
variable {K : PySem.W.Frag} {C : Ctx} {W W' : Vw} {σ : L2.St} {H : Hp} {s : S} {v w : V} {d : PV} {Q : VK} {i : Nat} {ca cb cd : M PV}
theorem KVs.get : ∀ {r : List (Key × V)} {q : List (Key × PV)} {k : Key} {d : PV}, KVs K W r q → valP q k = some d → ∃ v, valV r k = some v ∧ Rep K W v d
  | _, _, k, d, .nil, h => by cases h
  | _, _, k, d, .cons (k := k') (v := v) (d := d') (r := r) (s := q) h t, e => by
    unfold valP at e
    unfold valV
    rw [List.find?_cons] at e ⊢
    by_cases hk : k' = k
    · rw [decide_eq_true (show ((k', d') : Key × PV).1 = k from hk)] at e
      rw [decide_eq_true (show ((k', v) : Key × V).1 = k from hk)]
      cases e
      exact ⟨v, rfl, h⟩
    · rw [decide_eq_false (show ¬ ((k', d') : Key × PV).1 = k from hk)] at e
      rw [decide_eq_false (show ¬ ((k', v) : Key × V).1 = k from hk)]
      exact KVs.get t e
theorem KVs.length : ∀ {r : List (Key × V)} {q : List (Key × PV)}, KVs K W r q → r.length = q.length
  | _, _, .nil => rfl
  | _, _, .cons _ t => congrArg Nat.succ (KVs.length t)
theorem KVs.any : ∀ {r : List (Key × V)} {q : List (Key × PV)} {k : Key}, KVs K W r q → (r.any fun kv => decide (kv.1 = k)) = (q.any fun kv => decide (kv.1 = k))
  | _, _, _, .nil => rfl
  | _, _, k, .cons _ t => by
    rw [List.any_cons, List.any_cons, KVs.any t]
theorem KVs.append : ∀ {r r' : List (Key × V)} {q q' : List (Key × PV)}, KVs K W r q → KVs K W r' q' → KVs K W (r ++ r') (q ++ q')
  | _, _, _, _, .nil, t => t
  | _, _, _, _, .cons h t, u => .cons h (KVs.append t u)
theorem KVs.over {k : Key} (h : Rep K W v d) : ∀ {r : List (Key × V)} {q : List (Key × PV)}, KVs K W r q → KVs K W (r.map (fun kv => if kv.1 = k then (kv.1, v) else kv)) (q.map (fun kv => if kv.1 = k then (kv.1, d) else kv))
  | _, _, .nil => .nil
  | _, _, .cons (k := k') (v := v') (d := d') g t => by
    rw [List.map_cons, List.map_cons]
    by_cases hk : k' = k
    · rw [if_pos (show ((k', v') : Key × V).1 = k from hk), if_pos (show ((k', d') : Key × PV).1 = k from hk)]
      exact .cons h (KVs.over h t)
    · rw [if_neg (show ¬ ((k', v') : Key × V).1 = k from hk), if_neg (show ¬ ((k', d') : Key × PV).1 = k from hk)]
      exact .cons g (KVs.over h t)
theorem KVs.put {k : Key} {r : List (Key × V)} {q : List (Key × PV)} (t : KVs K W r q) (h : Rep K W v d) : KVs K W (putK r k v) (putP q k d) := by
  unfold putK putP
  rw [t.any]
  split
  · exact t.over h
  · exact t.append (.cons h .nil)
theorem KVs.merge : ∀ {m r : List (Key × V)} {n q : List (Key × PV)}, KVs K W m n → KVs K W r q → KVs K W (mergeK r m) (mergeP q n)
  | _, _, _, _, .nil, t => t
  | _, _, _, _, .cons (k := k) (v := v) (d := d) (r := m) (s := n) h u, t => by
    show KVs K W (mergeK (putK _ k v) m) (mergeP (putP _ k d) n)
    exact KVs.merge u (t.put h)
/-- d['k'] of a handle -/
def hgetP : PV → PV → M PV := fun a b s => match a, b with
  | .hnd n, .str k => match s.sto[n]? with
    | some (.dic kvs) => match valP kvs (.inr k) with
      | some d => .ok d s
      | none => .stk
    | none => .stk
  | _, _ => .stk
theorem bin_hget : Bin (fun x y H Q => ∃ a v, x = .ref a ∧ DGet H a y (some v) ∧ Q v H) K hgetP := by
  intro C W s σ H v w a b Q at' ra rb p
  unfold hgetP at p
  split at p
  · rename_i n k
    split at p
    · rename_i kvs hs
      split at p
      · rename_i d hd
        obtain ⟨x, rfl, hx⟩ := ra.hnd
        cases rb.str
        obtain ⟨_, mo, hm, mr⟩ := at'.ok.hnd n x hx
        rw [hs] at hm
        cases hm
        cases mr with
        | dic hH kv =>
          obtain ⟨y, hy, ry⟩ := kv.get hd
          refine ⟨x, y, rfl, ?_, p W H (Vw.Le.refl _) at' _ ry⟩
          rw [← hy]
          exact DGet.k (k := Sum.inr k) hH
      · exact p.elim
    · exact p.elim
  · exact p.elim
theorem den_hget (h : den K (bin ca cb hgetP) σ H Q) : tDGet (den K ca) (den K cb) σ H Q := den_bin bin_hget h
/-- the handle's object changed -/
theorem At.put {n : Nat} {a : Addr} {kvs : List (Key × V)} {q : List (Key × PV)} (h : At K C W s σ H) (hn : W.hs[n]? = some a) (r : KVs K W kvs q) : At K C W { s with sto := s.sto.set n (.dic q) } σ (upd H a (.dK kvs)) := by
  obtain ⟨fa, mo, hm, mr⟩ := h.ok.hnd n a hn
  have hnl : n < s.sto.length := (List.getElem?_eq_some_iff.mp hm).1
  refine ⟨⟨fun b u e => ?_, fun m b e => ?_, h.ok.nd, by rw [List.length_set]; exact h.ok.len⟩, fun b u e hb => ?_, h.pre, h.gro, h.len, h.val, fun j ys e => ?_, h.dst⟩
  · rw [upd_ne (ne_of_none e fa)]
    exact h.ok.sub b u e
  · obtain ⟨g1, mo', g2, g3⟩ := h.ok.hnd m b e
    by_cases hb : b = a
    · subst hb
      have hmn : m = n := by
        have h1 := (List.getElem?_eq_some_iff.mp e)
        have h2 := (List.getElem?_eq_some_iff.mp hn)
        obtain ⟨x1, y1⟩ := h1
        obtain ⟨x2, y2⟩ := h2
        exact (List.getElem_inj h.ok.nd).mp (y1.trans y2.symm)
      subst hmn
      exact ⟨g1, _, List.getElem?_set_self hnl, .dic upd_same r⟩
    · have hmn : n ≠ m := fun z => by
        subst z
        rw [hn] at e
        cases e
        exact hb rfl
      exact ⟨g1, mo', by rw [List.getElem?_set_ne hmn]; exact g2, g3.other hb⟩
  · have hba : b ≠ a := fun z => by
      subst z
      have hg : C.G b ≠ none := by rw [e]; exact fun q => nomatch q
      exact hb ((h.gro b hg).2 (List.mem_of_getElem? hn))
    rw [upd_ne hba]
    exact h.keep b u e hb
  · obtain ⟨b, ws, e1, ow, e2, r2⟩ := h.own j ys e
    have hba : b ≠ a := fun z => ow.h (by rw [z]; exact List.mem_of_getElem? hn)
    exact ⟨b, ws, e1, ow, by rw [upd_ne hba]; exact e2, r2⟩
/-- d['k'] = v -/
def hputM (cd ck cv : M PV) : M Fl := bnd cv fun v => bnd cd fun a => bnd ck fun b => fun s => match a, b with
  | .hnd n, .str k => match s.sto[n]? with
    | some (.dic kvs) => if kvs.length < sizeLine then .ok .nx { s with sto := s.sto.set n (.dic (putP kvs (.inr k) v)) } else .stk
    | none => .stk
  | _, _ => .stk
end

/-! ### statements: what is wanted of an expression within -/
section
variable {K : PySem.W.Frag} {C : Ctx} {W W' : Vw} {σ : L2.St} {H : Hp} {s : S} {α : Type} {D : Ends}
theorem PstS.up {r : Res S Fl} (l : W.Le W') (h : PstS K C W D r) : PstS K C W' D r := by
  cases r with
  | ok a s' => exact fun W2 σ2 H2 l2 at2 => h W2 σ2 H2 (l.trans l2) at2
  | exc => exact h
  | stk => exact h
theorem PstS.bnd {c : M α} {f : α → M Fl} (h : PstS K C W D (Dn.bnd c f s)) : Pst K C W σ (c s) (fun a s1 W1 _ => PstS K C W1 D (f a s1)) := by
  unfold Dn.bnd at h
  cases e : c s with
  | ok a s1 =>
    rw [e] at h
    exact fun W1 H1 l _ => h.up l
  | exc => rw [e] at h; exact h
  | stk => rw [e] at h; exact h
theorem den_hput {cd ck cv : M PV} (h : denS K (hputM cd ck cv) D σ H) : sDPut (den K cd) (den K ck) (den K cv) D σ H := by
  obtain ⟨C, W, s, at', p⟩ := h
  refine ⟨C, W, s, at', (PstS.bnd p).imp fun v s1 W1 H1 l1 at1 p1 x rx => ⟨C, W1, s1, at1, (PstS.bnd p1).imp fun a s2 W2 H2 l2 at2 p2 y ry => ⟨C, W2, s2, at2, (PstS.bnd p2).imp fun b s3 W3 H3 l3 at3 p3 z rz => ?_⟩⟩⟩
  split at p3
  · rename_i n k
    split at p3
    · rename_i kvs hs
      split at p3
      · rename_i hl
        cases rz
        have ry := ry.mono l3
        cases ry with
        | hnd hx =>
          rename_i a
          obtain ⟨_, mo, hm, mr⟩ := at3.ok.hnd n a hx
          rw [hs] at hm
          cases hm
          cases mr with
          | dic hH kv =>
            refine ⟨a, _, rfl, DPut.k (k := Sum.inr k) hH (by rw [kv.length]; exact hl), ?_⟩
            exact p3 W3 _ _ (Vw.Le.refl _) (at3.put hx (kv.put (rx.mono (l2.trans l3))))
      · exact p3.elim
    · exact p3.elim
  · exact p3.elim
end
end Dn
/-! Den4: dict displays, comprehensions, statements. -/
namespace Dn
open PySem L2

/-! ### an address held apart while something is made -/
def Ctx.res (C : Ctx) (D : Addr) (o : HO) : Ctx := { G := upd C.G D o, F0 := fun b => if b = D then none else C.F0 b, hs0 := C.hs0 }
def del (H : Hp) (D : Addr) : Hp := fun b => if b = D then none else H b
theorem del_same {H : Hp} {D : Addr} : del H D D = none := if_pos rfl
theorem del_ne {H : Hp} {D b : Addr} (h : b ≠ D) : del H D b = H b := if_neg h
theorem upd_del {H : Hp} {D : Addr} {o : HO} (h : H D = some o) : upd (del H D) D o = H := by
  funext b
  by_cases hb : b = D
  · subst hb; rw [upd_same, h]
  · rw [upd_ne hb, del_ne hb]
section
variable {K : PySem.W.Frag} {C : Ctx} {W W' : Vw} {σ : L2.St} {H : Hp} {s : S} {v w : V} {d : PV} {Q : VK} {i : Nat} {ca cb cd : M PV} {D : Addr} {o : HO}
theorem At.resIn (h : At K C W s σ H) (hD : H D = none) (o : HO) : At K (C.res D o) W s σ (upd H D o) := by
  obtain ⟨f1, f2, f3⟩ := h.fresh hD
  refine ⟨⟨fun b u e => ?_, fun n b e => ?_, h.ok.nd, h.ok.len⟩, fun b u e hb => ?_, h.pre, fun b hb => ?_, h.len, h.val, fun j ys e => ?_, h.dst⟩
  · rw [upd_ne (ne_of_none e f1)]
    exact h.ok.sub b u e
  · obtain ⟨g1, mo, g2, g3⟩ := h.ok.hnd n b e
    exact ⟨g1, mo, g2, g3.other fun z => f2 (by rw [← z]; exact List.mem_of_getElem? e)⟩
  · by_cases hbD : b = D
    · subst hbD
      have e : upd C.G b o b = some u := e
      rw [upd_same] at e ⊢
      exact e
    · have e : upd C.G D o b = some u := e
      rw [upd_ne hbD] at e ⊢
      exact h.keep b u e hb
  · by_cases hbD : b = D
    · subst hbD
      exact ⟨by show _ = (if b = b then none else C.F0 b); rw [if_pos rfl]; exact f1, fun z => absurd z f2⟩
    · have hb : upd C.G D o b ≠ none := hb
      rw [upd_ne hbD] at hb
      obtain ⟨g1, g2⟩ := h.gro b hb
      exact ⟨by show _ = (if b = D then none else C.F0 b); rw [if_neg hbD]; exact g1, g2⟩
  · obtain ⟨b, ws, e1, ow, e2, r2⟩ := h.own j ys e
    have hb : b ≠ D := ne_of_none e2 hD
    exact ⟨b, ws, e1, ⟨ow.f, ow.h, by show upd C.G D o b = none; rw [upd_ne hb]; exact ow.g⟩, by rw [upd_ne hb]; exact e2, r2⟩
theorem At.resOut (h : At K (C.res D o) W s σ H) (hG : C.G D = none) (hh : D ∉ C.hs0) : del H D D = none ∧ upd (del H D) D o = H ∧ At K C W s σ (del H D) := by
  have eD : (C.res D o).G D = some o := upd_same
  have hHD : H D = some o := h.keep D o eD hh
  have gD : (C.res D o).G D ≠ none := by rw [eD]; exact fun z => nomatch z
  obtain ⟨g1, g2⟩ := h.gro D gD
  have g1 : W.F D = none := by rw [g1]; show (if D = D then none else C.F0 D) = none; rw [if_pos rfl]
  have g2 : D ∉ W.hs := fun z => hh (g2 z)
  refine ⟨del_same, upd_del hHD, ⟨⟨fun b u e => ?_, fun n b e => ?_, h.ok.nd, h.ok.len⟩, fun b u e hb => ?_, h.pre, fun b hb => ?_, h.len, h.val, fun j ys e => ?_, h.dst⟩⟩
  · rw [del_ne (ne_of_none e g1)]
    exact h.ok.sub b u e
  · obtain ⟨k1, mo, k2, k3⟩ := h.ok.hnd n b e
    have hb : b ≠ D := fun z => g2 (by rw [← z]; exact List.mem_of_getElem? e)
    refine ⟨k1, mo, k2, ?_⟩
    cases k3 with
    | dic q k => exact .dic (by rw [del_ne hb]; exact q) k
  · have hbD : b ≠ D := fun z => by rw [z, hG] at e; cases e
    rw [del_ne hbD]
    refine h.keep b u ?_ hb
    show upd C.G D o b = _
    rw [upd_ne hbD]
    exact e
  · have hbD : b ≠ D := fun z => by rw [z] at hb; exact hb hG
    obtain ⟨k1, k2⟩ := h.gro b (by show upd C.G D o b ≠ none; rw [upd_ne hbD]; exact hb)
    have k1 : W.F b = (if b = D then none else C.F0 b) := k1
    rw [if_neg hbD] at k1
    exact ⟨k1, k2⟩
  · obtain ⟨b, ws, e1, ow, e2, r2⟩ := h.own j ys e
    have og : upd C.G D o b = none := ow.g
    have hb : b ≠ D := fun z => by rw [z, upd_same] at og; cases og
    rw [upd_ne hb] at og
    exact ⟨b, ws, e1, ⟨ow.f, ow.h, og⟩, by rw [del_ne hb]; exact e2, r2⟩
theorem At.nohs (h : At K C W s σ H) (hD : H D = none) : C.G D = none ∧ D ∉ C.hs0 := by
  obtain ⟨_, f2, f3⟩ := h.fresh hD
  refine ⟨f3, fun hm => f2 ?_⟩
  obtain ⟨n, hn⟩ := List.getElem?_of_mem hm
  exact List.mem_of_getElem? (h.pre n D hn)
/-- what is wanted, while D is held apart -/
theorem Pst.res {α : Type} {r : Res S α} {Q : α → S → Vw → Hp → Prop} (hG : C.G D = none) (hh : D ∉ C.hs0) (h : Pst K C W σ r Q) : Pst K (C.res D o) W σ r (fun a s' W' H' => Q a s' W' (del H' D)) := by
  cases r with
  | ok a s' => exact fun W' H' l at' => h W' _ l (at'.resOut hG hh).2.2
  | exc => exact h
  | stk => exact h
/-- a new handle -/
theorem At.newH {p : Addr} {r : List (Key × V)} {q : List (Key × PV)} (h : At K C W s σ H) (hp : H p = none) (k : KVs K W r q) :
    W.Le ⟨W.F, W.hs ++ [p]⟩ ∧ At K C ⟨W.F, W.hs ++ [p]⟩ { s with sto := s.sto ++ [.dic q] } σ (upd H p (.dK r)) ∧ Rep K ⟨W.F, W.hs ++ [p]⟩ (.ref p) (.hnd s.sto.length) := by
  obtain ⟨f1, f2, f3⟩ := h.fresh hp
  have le : W.Le ⟨W.F, W.hs ++ [p]⟩ := ⟨Same.refl _, fun n a e => by
    have := (List.getElem?_eq_some_iff.mp e).1
    show (W.hs ++ [p])[n]? = _
    rw [List.getElem?_append_left this]
    exact e⟩
  refine ⟨le, ⟨⟨fun b u e => ?_, fun n b e => ?_, ?_, ?_⟩, fun b u e hb => ?_, fun n b e => le.pre n b (h.pre n b e), fun b hb => ?_, h.len, fun j e he => ?_, fun j ys e => ?_, h.dst⟩, .hnd ?_⟩
  · rw [upd_ne (ne_of_none e f1)]
    exact h.ok.sub b u e
  · have e : (W.hs ++ [p])[n]? = some b := e
    by_cases hn : n < W.hs.length
    · rw [List.getElem?_append_left hn] at e
      obtain ⟨g1, mo, g2, g3⟩ := h.ok.hnd n b e
      refine ⟨g1, mo, ?_, (g3.other fun z => f2 (by rw [← z]; exact List.mem_of_getElem? e)).mono le⟩
      show (s.sto ++ _)[n]? = _
      rw [List.getElem?_append_left (by rw [h.ok.len]; exact hn)]
      exact g2
    · rw [List.getElem?_append_right (by omega)] at e
      have hz : n - W.hs.length = 0 := by
        have := (List.getElem?_eq_some_iff.mp e).1
        simp at this
        omega
      rw [hz] at e
      cases e
      refine ⟨f1, .dic q, ?_, .dic upd_same (k.mono le)⟩
      show (s.sto ++ [MO.dic q])[n]? = _
      rw [List.getElem?_append_right (by rw [h.ok.len]; omega), h.ok.len, hz]
      rfl
  · show (W.hs ++ [p]).Nodup
    rw [List.nodup_append]
    exact ⟨h.ok.nd, by simp, fun a ha b hb => by
      rw [List.mem_singleton] at hb
      subst hb
      exact fun z => f2 (by rw [← z]; exact ha)⟩
  · show (s.sto ++ _).length = (W.hs ++ _).length
    rw [List.length_append, List.length_append, h.ok.len]
    rfl
  · rw [upd_ne (fun z => by rw [z, f3] at e; cases e)]
    exact h.keep b u e hb
  · obtain ⟨g1, g2⟩ := h.gro b hb
    refine ⟨g1, fun hm => ?_⟩
    rcases List.mem_append.mp hm with hm | hm
    · exact g2 hm
    · rw [List.mem_singleton] at hm
      rw [hm] at hb
      exact absurd f3 hb
  · obtain ⟨v, e1, r⟩ := h.val j e he
    exact ⟨v, e1, r.mono le⟩
  · obtain ⟨b, ws, e1, ow, e2, r2⟩ := h.own j ys e
    have hb : b ≠ p := ne_of_none e2 hp
    refine ⟨b, ws, e1, ⟨ow.f, fun hm => ?_, ow.g⟩, by rw [upd_ne hb]; exact e2, r2.mono le⟩
    rcases List.mem_append.mp hm with hm | hm
    · exact ow.h hm
    · exact hb (List.mem_singleton.mp hm)
  · show (W.hs ++ [p])[s.sto.length]? = _
    rw [h.ok.len, List.getElem?_append_right (Nat.le_refl _), Nat.sub_self]
    rfl

/-! ### {'k': e, ..}: a new handle -/
def prsM : List (Str × M PV) → M (List (Key × PV))
  | [] => ret []
  | (k, c) :: r => bnd c fun d => bnd (prsM r) fun ds => ret ((.inr k, d) :: ds)
def trsOf (K : PySem.W.Frag) (kcs : List (Str × M PV)) : List (TE × TE) := kcs.map fun p => (tC (.str p.1), den K p.2)
def dispM (kcs : List (Str × M PV)) : M PV := bnd (prsM kcs) fun kvs s => if kvs.length ≤ 15 then .ok (.hnd s.sto.length) { s with sto := s.sto ++ [.dic (mergeP [] kvs)] } else .stk
theorem den_prs : ∀ (kcs : List (Str × M PV)) {C : Ctx} {W : Vw} {s : S} {H : Hp} {QP : List (V × V) → Hp → Prop}, At K C W s σ H →
    Pst K C W σ (prsM kcs s) (fun kvs _ W' H' => ∀ r : List (Key × V), KVs K W' r kvs → QP (r.map fun kv => (kV kv.1, kv.2)) H') → tPairs (trsOf K kcs) σ H QP
  | [], C, W, s, H, QP, at', p => p W H (Vw.Le.refl _) at' [] .nil
  | (k, c) :: r, C, W, s, H, QP, at', p => by
    refine ⟨C, W, s, at', (Pst.bnd p).imp fun d s1 W1 H1 l1 at1 p1 v rv => ?_⟩
    refine den_prs r at1 ((Pst.bnd p1).imp fun kvs s2 W2 H2 l2 at2 p2 q hq => ?_)
    exact p2 W2 H2 (Vw.Le.refl _) at2 ((.inr k, v) :: q) (.cons (rv.mono l2) hq)
theorem den_disp {kcs : List (Str × M PV)} (h : den K (dispM kcs) σ H Q) : tDisp (trsOf K kcs) σ H Q := by
  obtain ⟨C, W, s, at', p⟩ := h
  intro q hq
  obtain ⟨hG, hh⟩ := at'.nohs hq
  have p1 := (Pst.bnd p).res (o := .dK []) hG hh
  refine den_prs kcs (at'.resIn hq (.dK [])) (p1.imp fun kvs s1 W1 H1 l1 at1 p2 r hr => ?_)
  obtain ⟨e1, e2, at2⟩ := at1.resOut hG hh
  have hp : H1 q = some (.dK []) := at1.keep q _ upd_same hh
  refine ⟨hp, r, rfl, ?_⟩
  split at p2
  · rename_i hl
    refine ⟨by rw [hr.length]; exact hl, ?_⟩
    obtain ⟨l3, at3, r3⟩ := at2.newH e1 (KVs.merge hr .nil)
    have p3 := p2 _ _ l3 at3 _ r3
    have e3 : upd (del H1 q) q (.dK (mergeK [] r)) = upd H1 q (.dK (mergeK [] r)) := by
      rw [← e2, upd_upd, e2]
    rw [e3] at p3
    exact p3
  · exact p2.elim

/-! ### the slots of a block forgotten -/
def wip (e : Env) : List Nat → Env
  | [] => e
  | v :: vs => (wip e vs).set v none
theorem wip_length (e : Env) : ∀ vs : List Nat, (wip e vs).length = e.length
  | [] => rfl
  | v :: vs => by unfold wip; rw [List.length_set, wip_length e vs]
theorem wip_some {e : Env} {j : Nat} {x : SV} : ∀ {vs : List Nat}, (wip e vs)[j]? = some (some x) → e[j]? = some (some x) ∧ j ∉ vs
  | [], h => ⟨h, by simp⟩
  | v :: vs, h => by
    unfold wip at h
    by_cases hi : v = j
    · subst hi
      by_cases hv : v < (wip e vs).length
      · rw [List.getElem?_set_self hv] at h; cases h
      · rw [List.getElem?_eq_none (by simpa using hv)] at h; cases h
    · rw [List.getElem?_set_ne hi] at h
      obtain ⟨h1, h2⟩ := wip_some h
      exact ⟨h1, by simp only [List.mem_cons, not_or]; exact ⟨fun e => hi e.symm, h2⟩⟩
theorem wipe_in {σ : L2.St} {j : Nat} : ∀ {vs : List Nat}, j ∈ vs → j < σ.length → (wipe σ vs)[j]? = some none
  | v :: vs, h, hl => by
    unfold wipe
    by_cases hi : v = j
    · subst hi
      exact List.getElem?_set_self (by rw [wipe_length]; exact hl)
    · rw [List.getElem?_set_ne hi]
      exact wipe_in ((List.mem_cons.mp h).resolve_left fun e => hi e.symm) hl
theorem wipe_ext {σ τ : L2.St} {vs : List Nat} (hl : σ.length = τ.length) (h : ∀ j, j ∉ vs → σ[j]? = τ[j]?) : wipe σ vs = wipe τ vs := by
  apply List.ext_getElem?
  intro j
  by_cases hj : j ∈ vs
  · by_cases hlt : j < σ.length
    · rw [wipe_in hj hlt, wipe_in hj (by omega)]
    · rw [List.getElem?_eq_none (by rw [wipe_length]; omega), List.getElem?_eq_none (by rw [wipe_length]; omega)]
  · rw [wipe_out hj, wipe_out hj]
    exact h j hj
theorem At.weak {e' : Env} {σ' : L2.St} (h : At K C W s σ H) (hl : e'.length = s.env.length) (hl2 : σ'.length = σ.length) (hs : ∀ (j : Nat) (sv : SV), e'[j]? = some (some sv) → s.env[j]? = some (some sv) ∧ σ'[j]? = σ[j]?) : At K C W { s with env := e' } σ' H := by
  refine ⟨h.ok, h.keep, h.pre, h.gro, by rw [hl2, h.len]; exact hl.symm, fun j d e => ?_, fun j xs e => ?_, fun j k xs ys a h1 h2 h3 h4 => ?_⟩
  · obtain ⟨e1, e2⟩ := hs j _ e
    rw [e2]
    exact h.val j d e1
  · obtain ⟨e1, e2⟩ := hs j _ e
    rw [e2]
    exact h.own j xs e1
  · obtain ⟨e1, e2⟩ := hs j _ h1
    obtain ⟨e3, e4⟩ := hs k _ h2
    rw [e2] at h3
    rw [e4] at h4
    exact h.dst j k xs ys a e1 e3 h3 h4
theorem At.wipeS (h : At K C W s σ H) (vs : List Nat) : At K C W { s with env := wip s.env vs } (L2.wipe σ vs) H :=
  h.weak (wip_length _ _) (wipe_length _ _) fun j sv e => ⟨(wip_some e).1, wipe_out (wip_some e).2⟩
theorem At.unwipe {vs : List Nat} (h : At K C W s (wipe σ vs) H) : At K C W { s with env := wip s.env vs } σ H :=
  h.weak (wip_length _ _) (wipe_length _ _).symm fun j sv e => ⟨(wip_some e).1, (wipe_out (wip_some e).2).symm⟩
theorem wip_wip (e : Env) (vs : List Nat) : wip (wip e vs) vs = wip e vs := by
  have hin : ∀ {e : Env} {j : Nat} {vs : List Nat}, j ∈ vs → j < e.length → (wip e vs)[j]? = some none := by
    intro e j vs
    induction vs with
    | nil => intro h; cases h
    | cons v vs ih =>
      intro h hl
      unfold wip
      by_cases hi : v = j
      · subst hi
        exact List.getElem?_set_self (by rw [wip_length]; exact hl)
      · rw [List.getElem?_set_ne hi]
        exact ih ((List.mem_cons.mp h).resolve_left fun e => hi e.symm) hl
  have hout : ∀ {e : Env} {j : Nat} {vs : List Nat}, j ∉ vs → (wip e vs)[j]? = e[j]? := by
    intro e j vs
    induction vs with
    | nil => intro _; rfl
    | cons v vs ih =>
      intro h
      unfold wip
      rw [List.getElem?_set_ne (fun z => h (by rw [z]; exact List.mem_cons_self))]
      exact ih fun m => h (List.mem_cons_of_mem _ m)
  apply List.ext_getElem?
  intro j
  by_cases hj : j ∈ vs
  · by_cases hlt : j < e.length
    · rw [hin hj (by rw [wip_length]; exact hlt), hin hj hlt]
    · rw [List.getElem?_eq_none (by rw [wip_length, wip_length]; omega), List.getElem?_eq_none (by rw [wip_length]; omega)]
  · rw [hout hj]

/-! ### what is walked -/
structure Walks (K : PySem.W.Frag) (J : It) (W : Vw) (xs : List PV) : Prop where
  go : ∀ {C : Ctx} {W' : Vw} {s : S} {σ : L2.St} {H : Hp} {i : Nat}, W.Le W' → At K C W' s σ H → i < xs.length → J.go i H
  yld : ∀ {C : Ctx} {W' : Vw} {s : S} {σ : L2.St} {H H' : Hp} {i : Nat} {x : V}, W.Le W' → At K C W' s σ H → i < xs.length → J.yld i H x H' → ∃ d W'', xs[i]? = some d ∧ W'.Le W'' ∧ At K C W'' s σ H' ∧ Rep K W'' x d
  stop : ∀ {C : Ctx} {W' : Vw} {s : S} {σ : L2.St} {H : Hp} {i : Nat}, W.Le W' → At K C W' s σ H → xs.length ≤ i → J.stop i H
def SrcOk (wi : TI) (K : PySem.W.Frag) (c : M (List PV)) : Prop := ∀ (σ : L2.St) (H : Hp) (R : It → Hp → Prop), (∃ C W s, At K C W s σ H ∧ Pst K C W σ (c s) (fun xs _ W' H' => ∀ J, Walks K J W' xs → R J H')) → wi σ H R
theorem walks_lst {a : Addr} {vs : List V} {ds : List PV} (h : W.F a = some (.lst vs)) (r : Reps K W vs ds) : Walks K (Itl K a) W ds where
  go := fun {C W' s σ H i} l at' hi => by
    have e := at'.ok.sub _ _ (l.ex _ _ h)
    have hi' : i < vs.length := by rw [r.length]; exact hi
    exact ⟨vs, vs[i], SqL.of e, List.getElem?_eq_getElem hi'⟩
  yld := fun {C W' s σ H H' i x} l at' hi y => by
    obtain ⟨e, y⟩ := y
    subst e
    have e := at'.ok.sub _ _ (l.ex _ _ h)
    have hx := y vs (SqL.of e)
    obtain ⟨d, h1, h2⟩ := r.getV hx
    exact ⟨d, W', h1, Vw.Le.refl _, at', h2.mono l⟩
  stop := fun {C W' s σ H i} l at' hi => ⟨vs, SqL.of (at'.ok.sub _ _ (l.ex _ _ h)), by rw [r.length]; exact hi⟩
theorem walks_tup {a : Addr} {vs : List V} {ds : List PV} (h : SqT K W.F a vs) (r : Reps K W vs ds) : Walks K (Itt K a) W ds where
  go := fun {C W' s σ H i} l at' hi => by
    have e := same_t at'.ok.sub (same_t l.ex h)
    have hi' : i < vs.length := by rw [r.length]; exact hi
    exact ⟨vs, vs[i], e, List.getElem?_eq_getElem hi'⟩
  yld := fun {C W' s σ H H' i x} l at' hi y => by
    obtain ⟨e, y⟩ := y
    subst e
    have e := same_t at'.ok.sub (same_t l.ex h)
    have hx := y vs e
    obtain ⟨d, h1, h2⟩ := r.getV hx
    exact ⟨d, W', h1, Vw.Le.refl _, at', h2.mono l⟩
  stop := fun {C W' s σ H i} l at' hi => ⟨vs, same_t at'.ok.sub (same_t l.ex h), by rw [r.length]; exact hi⟩
theorem walks_rng {lo : Int} {n : Nat} : Walks K (Itr lo n) W ((List.range n).map fun (k : Nat) => PV.int (lo + (k : Int))) where
  go := fun {C W' s σ H i} l at' hi => by show i < n; simpa using hi
  yld := fun {C W' s σ H H' i x} l at' hi y => by
    obtain ⟨e, y⟩ := y
    subst e y
    have hi : i < n := by simpa using hi
    exact ⟨.int (lo + i), W', by simp [hi], Vw.Le.refl _, at', .int _⟩
  stop := fun {C W' s σ H i} l at' hi => by show n ≤ i; simpa using hi
def itemsP : PV → Option (List PV)
  | .lst xs => some xs
  | .tup xs => some xs
  | _ => none
def itemsM (c : M PV) : M (List PV) := bnd c fun d => lft (itemsP d)
def iU (K : PySem.W.Frag) (te : TE) : TI := fun σ H R => iList K te σ H R ∨ iTup K te σ H R
theorem pi_u {X : Cx} {tg e : Expr} {te : TE} (h : PE X e te) : PI X tg e (iU X.K te) := ⟨fun pins s σ H R I q => by
  rcases q with q | q
  · exact (pi_list h).run pins s σ H R I q
  · exact (pi_tup h).run pins s σ H R I q⟩
theorem src_u : SrcOk (iU K (den K ca)) K (itemsM ca) := by
  intro σ H R ⟨C, W, s, at', p⟩
  have p := Pst.bnd p
  cases e : ca s with
  | exc _ _ => rw [e] at p; exact p.elim
  | stk => rw [e] at p; exact p.elim
  | ok d s1 =>
    cases d with
    | lst xs =>
      refine .inl ⟨C, W, s, at', ?_⟩
      rw [e] at p ⊢
      intro W1 H1 l1 at1 v rv
      have p1 := p W1 H1 l1 at1 W1 H1 (Vw.Le.refl _) at1
      cases rv with
      | lst hx rx => exact ⟨_, rfl, ⟨_, SqL.of (at1.ok.sub _ _ hx)⟩, p1 _ (walks_lst hx rx)⟩
    | tup xs =>
      refine .inr ⟨C, W, s, at', ?_⟩
      rw [e] at p ⊢
      intro W1 H1 l1 at1 v rv
      have p1 := p W1 H1 l1 at1 W1 H1 (Vw.Le.refl _) at1
      cases rv with
      | tup hx rx => exact ⟨_, rfl, ⟨_, same_t at1.ok.sub hx⟩, p1 _ (walks_tup hx rx)⟩
    | _ =>
      refine .inl ⟨C, W, s, at', ?_⟩
      rw [e] at p ⊢
      intro W1 H1 l1 at1
      exact (p W1 H1 l1 at1).elim
def rngP : PV → Option (List PV)
  | .int j => if -(2 ^ 62) ≤ j ∧ j < 2 ^ 62 then some ((List.range j.toNat).map fun (k : Nat) => PV.int (0 + (k : Int))) else none
  | _ => none
def rngM (c : M PV) : M (List PV) := bnd c fun d => lft (rngP d)
theorem src_rng : SrcOk (iRng1 (tCons (den K ca) tNil)) K (rngM ca) := by
  intro σ H R ⟨C, W, s, at', p⟩
  refine ⟨C, W, s, at', (Pst.bnd p).imp fun d s1 W1 H1 l1 at1 p1 v rv => ?_⟩
  obtain ⟨e', he, q⟩ := p1.lft'
  unfold rngP at he
  split at he
  · split at he
    · rename_i hj
      cases he
      cases rv
      exact ⟨_, rfl, hj.1, hj.2, q W1 H1 (Vw.Le.refl _) at1 _ walks_rng⟩
    · cases he
  · cases he

/-! ### [e for x in xs if t] -/
def lcGo (i : Nat) (vs : List Nat) (cond : M Bool) (elt : M PV) : List PV → List PV → M (List PV)
  | [], acc => ret acc
  | x :: r, acc => fun s => match cond { s with env := s.env.set i (some (.val x)) } with
    | .ok true s1 => match elt s1 with
      | .ok y s2 => if acc.length < sizeLine then lcGo i vs cond elt r (acc ++ [y]) { s2 with env := wip s2.env vs } else .stk
      | .exc e s2 => .exc e s2
      | .stk => .stk
    | .ok false s1 => lcGo i vs cond elt r acc { s1 with env := wip s1.env vs }
    | .exc e s1 => .exc e s1
    | .stk => .stk
def lcM (cs : M (List PV)) (i : Nat) (vs : List Nat) (cond : M Bool) (elt : M PV) : M (List PV) := bnd cs fun xs s => lcGo i vs cond elt xs [] { s with env := wip s.env vs }
theorem den_lc {wi : TI} {cs : M (List PV)} {vs : List Nat} {cond : M Bool} {elt : M PV} (hw : SrcOk wi K cs) (hi : i ∈ vs) (h : denO K (lcM cs i vs cond elt) σ H Q) : tLc wi (gName i) (denT K cond) (den K elt) vs σ H Q := by
  obtain ⟨C, W, s, at', p⟩ := h
  refine hw σ H _ ⟨C, W, s, at', (Pst.bnd p).imp fun xs s1 W1 H1 l1 at1 p1 J wk => ?_⟩
  intro D hD
  obtain ⟨hG, hh⟩ := at1.nohs hD
  refine ⟨fun k m H => k ≤ xs.length ∧ m = xs.length - k ∧ ∃ acc accV s2 W2, W1.Le W2 ∧ At K (C.res D (.lst accV)) W2 s2 (wipe σ vs) H ∧ wip s2.env vs = s2.env ∧ Reps K W2 accV acc ∧ Pst K C W2 σ (lcGo i vs cond elt (xs.drop k) acc s2) (WantL K Q),
    ⟨xs.length, Nat.zero_le _, by simp, [], [], _, W1, Vw.Le.refl _, (at1.resIn hD (.lst [])).wipeS vs, wip_wip _ _, .nil, p1⟩, ?_⟩
  rintro k m H2 ⟨hk, rfl, acc, accV, s2, W2, l2, at2, hw2, ra, p2⟩
  by_cases hlt : k < xs.length
  · refine .inr ⟨wk.go l2 at2 hlt, fun H' => ∃ acc accV s2 W2, W1.Le W2 ∧ At K (C.res D (.lst accV)) W2 s2 (wipe σ vs) H' ∧ wip s2.env vs = s2.env ∧ Reps K W2 accV acc ∧ Pst K C W2 σ (lcGo i vs cond elt (xs.drop (k + 1)) acc s2) (WantL K Q),
      fun H' q => ⟨xs.length - (k + 1), by omega, hlt, rfl, q⟩, fun x H' y => ?_⟩
    obtain ⟨d, W3, hd, l3, at3, rd⟩ := wk.yld l2 at2 hlt y
    have hdrop : xs.drop k = d :: xs.drop (k + 1) := by
      obtain ⟨h1, h2⟩ := List.getElem?_eq_some_iff.mp hd
      rw [List.drop_eq_getElem_cons h1, h2]
    rw [hdrop] at p2
    have at4 : At K (C.res D (.lst accV)) W3 { s2 with env := s2.env.set i (some (.val d)) } ((wipe σ vs).set i (some x)) H' := at3.set rd i
    have hw' : ∀ {τ : L2.St}, τ = (wipe σ vs).set i (some x) → wipe τ vs = wipe σ vs := by
      intro τ e
      subst e
      apply wipe_ext
      · rw [List.length_set, wipe_length]
      · intro j hj
        rw [List.getElem?_set_ne (fun z => hj (by rw [← z]; exact hi)), wipe_out hj]
    have toWipe : ∀ {C' : Ctx} {W' : Vw} {s' : S} {H' : Hp}, At K C' W' s' ((wipe σ vs).set i (some x)) H' → At K C' W' { s' with env := wip s'.env vs } (wipe σ vs) H' := fun {C' W' s' H'} a =>
      a.weak (wip_length _ _) (by rw [List.length_set]) fun j sv e => ⟨(wip_some e).1, by rw [List.getElem?_set_ne (fun z => (wip_some e).2 (by rw [← z]; exact hi))]⟩
    refine ⟨hw' rfl, C.res D (.lst accV), W3, _, at4, ?_⟩
    have p3 : Pst K C W3 σ (lcGo i vs cond elt (d :: xs.drop (k + 1)) acc s2) (WantL K Q) := p2.up l3
    cases ec : cond { s2 with env := s2.env.set i (some (.val d)) } with
    | exc e s3 =>
      unfold lcGo at p3
      simp only [ec] at p3
      exact p3.elim
    | stk =>
      unfold lcGo at p3
      simp only [ec] at p3
      exact p3.elim
    | ok b s3 =>
      intro W4 H4 l4 at5
      cases b with
      | false =>
        unfold lcGo at p3
        simp only [ec] at p3
        show ∃ acc accV s2 W2, _
        exact ⟨acc, accV, _, W4, (l2.trans l3).trans l4, toWipe at5, wip_wip _ _, ra.mono (l3.trans l4), p3.up l4⟩
      | true =>
        unfold lcGo at p3
        simp only [ec] at p3
        show den K elt _ H4 _
        refine ⟨C.res D (.lst accV), W4, s3, at5, ?_⟩
        cases ee : elt s3 with
        | exc e s4 => simp only [ee] at p3; exact p3.elim
        | stk => simp only [ee] at p3; exact p3.elim
        | ok y4 s4 =>
          simp only [ee] at p3
          split at p3
          · rename_i hsz
            intro W5 H5 l5 at6 v rv
            have hHD : H5 D = some (.lst accV) := at6.keep D _ upd_same hh
            refine ⟨accV, hHD, by rw [ra.length]; exact hsz, acc ++ [y4], accV ++ [v], _, W5, ((l2.trans l3).trans l4).trans l5, ?_, wip_wip _ _, (ra.mono ((l3.trans l4).trans l5)).append (.cons rv .nil), p3.up (l4.trans l5)⟩
            have at7 := toWipe at6
            obtain ⟨e1, e2, at8⟩ := at7.resOut hG hh
            have at9 := at8.resIn e1 (.lst (accV ++ [v]))
            have e3 : upd (del H5 D) D (.lst (accV ++ [v])) = upd H5 D (.lst (accV ++ [v])) := by
              rw [← e2, upd_upd, e2]
            rw [e3] at at9
            exact at9
          · exact p3.elim
  · have e : k = xs.length := by omega
    subst e
    refine .inl ⟨wk.stop l2 at2 (Nat.le_refl _), ?_⟩
    rw [List.drop_length] at p2
    obtain ⟨e1, e2, at3⟩ := at2.resOut hG hh
    have at4 := at3.unwipe
    rw [hw2] at at4
    have q := p2 W2 _ (Vw.Le.refl _) at4 D accV e1 ra
    rw [e2] at q
    exact q
end

/-! ### statements -/
section
variable {K : PySem.W.Frag} {C : Ctx} {W W' : Vw} {σ : L2.St} {H : Hp} {s : S} {D : Ends} {i j k : Nat} {ca cb cd : M PV} {ta tb : TS} {fa fb : M Fl}
def skipM : M Fl := ret .nx
theorem den_skip (h : denS K skipM D σ H) : tNext D σ H := by
  obtain ⟨C, W, s, at', p⟩ := h
  exact p W σ H (Vw.Le.refl _) at'
def seqM (a b : M Fl) : M Fl := fun s => match a s with
  | .ok .nx s' => b s'
  | .ok fl s' => .ok fl s'
  | .exc e s' => .exc e s'
  | .stk => .stk
theorem den_seq (h : denS K (seqM fa fb) D σ H) : tSeq (denS K fa) (denS K fb) D σ H := by
  obtain ⟨C, W, s, at', p⟩ := h
  refine ⟨C, W, s, at', ?_⟩
  unfold seqM at p
  cases e : fa s with
  | exc _ _ => rw [e] at p; exact p.elim
  | stk => rw [e] at p; exact p.elim
  | ok fl s1 =>
    rw [e] at p
    cases fl with
    | nx => exact fun W1 σ1 H1 l1 at1 => ⟨C, W1, s1, at1, p.up l1⟩
    | rt d => exact fun W1 σ1 H1 l1 at1 => p W1 σ1 H1 l1 at1
    | bk => exact fun W1 σ1 H1 l1 at1 => p W1 σ1 H1 l1 at1
    | ct => exact fun W1 σ1 H1 l1 at1 => p W1 σ1 H1 l1 at1
def ifM (t : M Bool) (a b : M Fl) : M Fl := bnd t fun x => if x = true then a else b
theorem den_if {t : M Bool} (h : denS K (ifM t fa fb) D σ H) : tIfS (denT K t) (denS K fa) (denS K fb) D σ H := by
  obtain ⟨C, W, s, at', p⟩ := h
  refine ⟨C, W, s, at', (PstS.bnd p).imp fun x s1 W1 H1 l1 at1 p1 => ?_⟩
  cases x with
  | true => exact ⟨C, W1, s1, at1, p1⟩
  | false => exact ⟨C, W1, s1, at1, p1⟩
def retM (c : M PV) : M Fl := bnd c fun d => ret (.rt d)
theorem den_return (h : denS K (retM ca) D σ H) : tRet (den K ca) D σ H := by
  obtain ⟨C, W, s, at', p⟩ := h
  exact ⟨C, W, s, at', (PstS.bnd p).imp fun x s1 W1 H1 l1 at1 p1 => p1 W1 σ H1 (Vw.Le.refl _) at1⟩
def dropM (c : M PV) : M Fl := bnd c fun _ => ret .nx
theorem den_drop (h : denS K (dropM ca) D σ H) : tDrop (den K ca) D σ H := by
  obtain ⟨C, W, s, at', p⟩ := h
  exact ⟨C, W, s, at', (PstS.bnd p).imp fun x s1 W1 H1 l1 at1 p1 v _ => p1 W1 σ H1 (Vw.Le.refl _) at1⟩
theorem den_break (h : denS K (ret .bk) D σ H) : tBreak D σ H := by
  obtain ⟨C, W, s, at', p⟩ := h
  exact p W σ H (Vw.Le.refl _) at'
theorem den_continue (h : denS K (ret .ct) D σ H) : tCont D σ H := by
  obtain ⟨C, W, s, at', p⟩ := h
  exact p W σ H (Vw.Le.refl _) at'
def setV (i : Nat) (d : PV) : M Unit := fun s => .ok () { s with env := s.env.set i (some (.val d)) }
def setO (i : Nat) (xs : List PV) : M Unit := fun s => .ok () { s with env := s.env.set i (some (.own xs)) }
def asgM (i : Nat) (c : M PV) : M Fl := bnd c fun d => bnd (setV i d) fun _ => ret .nx
def asgO (i : Nat) (c : M (List PV)) : M Fl := bnd c fun d => bnd (setO i d) fun _ => ret .nx
theorem den_asg (h : denS K (asgM i ca) D σ H) : tAsg (den K ca) (gName i) D σ H := by
  obtain ⟨C, W, s, at', p⟩ := h
  exact ⟨C, W, s, at', (PstS.bnd p).imp fun x s1 W1 H1 l1 at1 p1 v rv => p1 W1 _ H1 (Vw.Le.refl _) (at1.set rv i)⟩
theorem den_asgO {c : M (List PV)} (h : denS K (asgO i c) D σ H) : tAsg (denO K c) (gName i) D σ H := by
  obtain ⟨C, W, s, at', p⟩ := h
  exact ⟨C, W, s, at', (PstS.bnd p).imp fun x s1 W1 H1 l1 at1 p1 q vs hq rvs => p1 W1 _ _ (Vw.Le.refl _) (at1.setO hq rvs i)⟩
/-! two, three names at once -/
def par2 (i j : Nat) (ca cb : M PV) : M Fl := bnd ca fun a => bnd cb fun b => bnd (setV i a) fun _ => bnd (setV j b) fun _ => ret .nx
theorem den_par2 (h : denS K (par2 i j ca cb) D σ H) : tPar i j (tCons (den K ca) (tCons (den K cb) tNil)) D σ H := by
  obtain ⟨C, W, s, at', p⟩ := h
  refine ⟨C, W, s, at', (PstS.bnd p).imp fun x s1 W1 H1 l1 at1 p1 v rv => ⟨C, W1, s1, at1, (PstS.bnd p1).imp fun y s2 W2 H2 l2 at2 p2 w rw' => ?_⟩⟩
  exact ⟨v, w, rfl, p2 W2 _ H2 (Vw.Le.refl _) ((at2.set (rv.mono l2) i).set rw' j)⟩
def par2VO (i j : Nat) (ca : M PV) (cb : M (List PV)) : M Fl := bnd ca fun a => bnd cb fun b => bnd (setV i a) fun _ => bnd (setO j b) fun _ => ret .nx
theorem den_par2VO {cb : M (List PV)} (h : denS K (par2VO i j ca cb) D σ H) : tPar i j (tCons (den K ca) (tCons (denO K cb) tNil)) D σ H := by
  obtain ⟨C, W, s, at', p⟩ := h
  refine ⟨C, W, s, at', (PstS.bnd p).imp fun x s1 W1 H1 l1 at1 p1 v rv => ⟨C, W1, s1, at1, (PstS.bnd p1).imp fun y s2 W2 H2 l2 at2 p2 q vs hq rvs => ?_⟩⟩
  exact ⟨v, _, rfl, p2 W2 _ _ (Vw.Le.refl _) ((at2.set (rv.mono l2) i).setO hq rvs j)⟩
def par2OO (i j : Nat) (ca cb : M (List PV)) : M Fl := bnd ca fun a => bnd cb fun b => bnd (setO i a) fun _ => bnd (setO j b) fun _ => ret .nx
theorem den_par2OO {ca cb : M (List PV)} (h : denS K (par2OO i j ca cb) D σ H) : tPar i j (tCons (denO K ca) (tCons (denO K cb) tNil)) D σ H := by
  obtain ⟨C, W, s, at', p⟩ := h
  refine ⟨C, W, s, at', (PstS.bnd p).imp fun xs s1 W1 H1 l1 at1 p1 a vs ha rvs => ?_⟩
  obtain ⟨hG, hh⟩ := at1.nohs ha
  have p2 : Pst K C W1 σ (cb s1) _ := PstS.bnd p1
  refine ⟨C.res a (.lst vs), W1, s1, at1.resIn ha (.lst vs), (p2.res hG hh).imp fun ys s2 W2 H2 l2 at2 p3 b ws hb rws => ?_⟩
  obtain ⟨e1, e2, at3⟩ := at2.resOut hG hh
  have at4 := at3.setO e1 (rvs.mono l2) i
  rw [e2] at at4
  exact ⟨_, _, rfl, p3 W2 _ _ (Vw.Le.refl _) (at4.setO hb rws j)⟩
def par3 (i j k : Nat) (ca cb cd : M PV) : M Fl := bnd ca fun a => bnd cb fun b => bnd cd fun d => bnd (setV i a) fun _ => bnd (setV j b) fun _ => bnd (setV k d) fun _ => ret .nx
theorem den_par3 (h : denS K (par3 i j k ca cb cd) D σ H) : tPar3 i j k (tCons (den K ca) (tCons (den K cb) (tCons (den K cd) tNil))) D σ H := by
  obtain ⟨C, W, s, at', p⟩ := h
  refine ⟨C, W, s, at', (PstS.bnd p).imp fun x s1 W1 H1 l1 at1 p1 v rv => ⟨C, W1, s1, at1, (PstS.bnd p1).imp fun y s2 W2 H2 l2 at2 p2 w rw' => ⟨C, W2, s2, at2, (PstS.bnd p2).imp fun z s3 W3 H3 l3 at3 p3 u ru => ?_⟩⟩⟩
  exact ⟨v, w, u, rfl, p3 W3 _ H3 (Vw.Le.refl _) (((at3.set (rv.mono (l2.trans l3)) i).set (rw'.mono l3) j).set ru k)⟩

/-! ### for, while -/
def forM (i : Nat) (body : M Fl) : List PV → M Fl
  | [] => ret .nx
  | x :: r => fun s => match body { s with env := s.env.set i (some (.val x)) } with
    | .ok .nx s' => forM i body r s'
    | .ok .ct s' => forM i body r s'
    | .ok .bk s' => .ok .nx s'
    | .ok (.rt d) s' => .ok (.rt d) s'
    | .exc e s' => .exc e s'
    | .stk => .stk
def loopM (cs : M (List PV)) (i : Nat) (body : M Fl) : M Fl := bnd cs fun xs => forM i body xs
theorem den_for {wi : TI} {cs : M (List PV)} (hw : SrcOk wi K cs) (h : denS K (loopM cs i fa) D σ H) : tFor wi (gName i) (denS K fa) D σ H := by
  obtain ⟨C, W, s, at', p⟩ := h
  refine hw σ H _ ⟨C, W, s, at', (PstS.bnd p).imp fun xs s1 W1 H1 l1 at1 p1 J wk => ?_⟩
  refine ⟨fun k m σ H => k ≤ xs.length ∧ m = xs.length - k ∧ ∃ s2 W2, W1.Le W2 ∧ At K C W2 s2 σ H ∧ PstS K C W2 D (forM i fa (xs.drop k) s2), ⟨xs.length, Nat.zero_le _, by simp, s1, W1, Vw.Le.refl _, at1, p1⟩, ?_⟩
  rintro k m σ2 H2 ⟨hk, rfl, s2, W2, l2, at2, p2⟩
  by_cases hlt : k < xs.length
  · refine .inr ⟨wk.go l2 at2 hlt, fun σ' H' => ∃ s2 W2, W1.Le W2 ∧ At K C W2 s2 σ' H' ∧ PstS K C W2 D (forM i fa (xs.drop (k + 1)) s2), fun σ' H' q => ⟨xs.length - (k + 1), by omega, hlt, rfl, q⟩, fun x H' y => ?_⟩
    obtain ⟨d, W3, hd, l3, at3, rd⟩ := wk.yld l2 at2 hlt y
    have hdrop : xs.drop k = d :: xs.drop (k + 1) := by
      obtain ⟨h1, h2⟩ := List.getElem?_eq_some_iff.mp hd
      rw [List.drop_eq_getElem_cons h1, h2]
    rw [hdrop] at p2
    refine ⟨C, W3, _, at3.set rd i, ?_⟩
    have p3 := p2.up l3
    unfold forM at p3
    cases e : fa { s2 with env := s2.env.set i (some (.val d)) } with
    | exc _ _ => simp only [e] at p3; exact p3.elim
    | stk => simp only [e] at p3; exact p3.elim
    | ok fl s4 =>
      simp only [e] at p3
      cases fl with
      | nx => exact fun W4 σ4 H4 l4 at4 => ⟨s4, W4, (l2.trans l3).trans l4, at4, p3.up l4⟩
      | ct => exact fun W4 σ4 H4 l4 at4 => ⟨s4, W4, (l2.trans l3).trans l4, at4, p3.up l4⟩
      | bk => exact fun W4 σ4 H4 l4 at4 => p3 W4 σ4 H4 l4 at4
      | rt r => exact fun W4 σ4 H4 l4 at4 => p3 W4 σ4 H4 l4 at4
  · have e : k = xs.length := by omega
    subst e
    rw [List.drop_length] at p2
    exact .inl ⟨wk.stop l2 at2 (Nat.le_refl _), p2 W2 σ2 H2 (Vw.Le.refl _) at2⟩
def whM (t : M Bool) (body : M Fl) : Nat → M Fl
  | 0 => stuck
  | n + 1 => bnd t fun x => if x = true then (fun s => match body s with
    | .ok .nx s' => whM t body n s'
    | .ok .ct s' => whM t body n s'
    | .ok .bk s' => .ok .nx s'
    | .ok (.rt d) s' => .ok (.rt d) s'
    | .exc e s' => .exc e s'
    | .stk => .stk) else ret .nx
theorem den_while {t : M Bool} {n : Nat} (h : denS K (whM t fa n) D σ H) : tWhile (denT K t) (denS K fa) D σ H := by
  obtain ⟨C, W, s, at', p⟩ := h
  refine ⟨fun m σ H => ∃ s W, At K C W s σ H ∧ PstS K C W D (whM t fa m s), ⟨n, s, W, at', p⟩, ?_⟩
  rintro m σ1 H1 ⟨s1, W1, at1, p1⟩
  cases m with
  | zero => exact p1.elim
  | succ m =>
    refine ⟨C, W1, s1, at1, (PstS.bnd p1).imp fun x s2 W2 H2 l2 at2 p2 => ?_⟩
    cases x with
    | false => exact p2 W2 σ1 H2 (Vw.Le.refl _) at2
    | true =>
      refine ⟨fun σ' H' => ∃ s W, At K C W s σ' H' ∧ PstS K C W D (whM t fa m s), fun σ' H' q => ⟨m, Nat.lt_succ_self m, q⟩, C, W2, s2, at2, ?_⟩
      simp only [if_true] at p2
      cases e : fa s2 with
      | exc _ _ => simp only [e] at p2; exact p2.elim
      | stk => simp only [e] at p2; exact p2.elim
      | ok fl s4 =>
        simp only [e] at p2
        cases fl with
        | nx => exact fun W4 σ4 H4 l4 at4 => ⟨s4, W4, at4, p2.up l4⟩
        | ct => exact fun W4 σ4 H4 l4 at4 => ⟨s4, W4, at4, p2.up l4⟩
        | bk => exact fun W4 σ4 H4 l4 at4 => p2 W4 σ4 H4 l4 at4
        | rt r => exact fun W4 σ4 H4 l4 at4 => p2 W4 σ4 H4 l4 at4
end
end Dn
/-! Den5: defs and their calls (with the guards known: repr), the law's end. -/
namespace Dn
open PySem L2 PySem.Spec PyProof.Rows

/-! ### a def's promise, where no list is being shown -/
structure FnG (P : Program) (w : World) (K : PySem.W.Frag) (mg : Str → Option Value) (base : Heap) (CX : CXT) (k : Nat) (f : Addr) (fd : FuncData) (ps : List Str) (sp : Sp) : Prop where
  len : ∀ vs H Q E, sp vs H Q E → vs.length = ps.length
  run : ∀ (A : Around) (outer : List PySem.Env) (s : Shared) (H : Hp) (args : Args) (us : List Value) (vs : List V) (Q : VK) (E : XK), A.guards = some [] → Room k A → Env0 P w K mg base A outer s H → BindsTo s fd args (ps.zip us) → Vals vs us → sp vs H Q E →
    codeAny (model P w) A (.call (.ref f) args) (CR CX outer P w H s Q E) s
theorem FnG.mono {P : Program} {w : World} {K : PySem.W.Frag} {mg : Str → Option Value} {base : Heap} {CX : CXT} {j k : Nat} {f : Addr} {fd : FuncData} {ps : List Str} {sp : Sp} (F : FnG P w K mg base CX j f fd ps sp) (h : j ≤ k) :
    FnG P w K mg base CX k f fd ps sp := ⟨F.len, fun A outer s H args us vs Q E hg hr => F.run A outer s H args us vs Q E hg (hr.mono h)⟩
theorem fn_ofG {CX : CXT} {P : Program} {w : World} {K : PySem.W.Frag} {mg : Str → Option Value} {base : Heap} {k : Nat} {f : Addr} {name qual : Str} {params : Arguments} {body : List Stmt} {scope : Scope} {dV kV doc pm cdv ct oc : Value} {an od : Option Addr}
    {osl : Array (Option Value)} {N ps : List Str} {sp : Sp} (lk : K.lookup f = some ⟨oc, od, .func (PySem.W.fnOf name qual params body scope dV kV doc pm an cdv ct), osl⟩) (hcd : PySem.W.codeIn K cdv qual = true) (S : FnScope N ps scope)
    (len : ∀ vs H Q E, sp vs H Q E → vs.length = ps.length)
    (hbody : ∀ (A : Around) (outer : List PySem.Env) (s : Shared) (H : Hp) (vs : List V) (Q : VK) (E : XK), (A.deeper (envOfC qual scope s.heap.objs.size f cdv)).guards = some [] → Room k (A.deeper (envOfC qual scope s.heap.objs.size f cdv)) → sp vs H Q E →
      ∃ t, PSs (cxOf CX P w K mg base N qual scope f cdv A outer s H E) body t ∧ t { nx := fun _ H' => Q .non H', rt := Q } (L2.start N vs) H) :
    FnG P w K mg base CX (k + 1) f (PySem.W.fnOf name qual params body scope dV kV doc pm an cdv ct) ps sp := by
  refine ⟨len, fun A outer s H args us vs Q E hgd hr e0 hb r hsp => ?_⟩
  have hl := len _ _ _ _ hsp
  have KX : K.In s.heap := e0.mod.kin.keeps fun b o e => (e0.bs b o e).1
  have lim : s.heap.NoLimit := e0.mod.nolimit.keeps fun b o e => (e0.bs b o e).1
  have hkind : ∀ y ∈ ps.zip us, scope.names.lookup y.1 = some .local ∨ (scope.names.lookup y.1 = some .cell ∧ ((cellsFrom (s.heap.objs.size + 1) scope.names []).lookup y.1).isSome = true) := fun ⟨n, v⟩ hy => by
    rcases S.par n (List.of_mem_zip hy).1 with q | q
    · exact .inl q
    · exact .inr ⟨q, PySem.W.cellsFrom_some _ _ _ (.inl q)⟩
  refine codeAny_call_function hr.depth (KX _ _ lk) rfl S.co S.gen rfl (PySem.W.codeRec_of KX hcd) (hb _ _ _ _ ?_)
  refine wpAny_newFunctionEnv_cells S.kind hkind fun env he s1 x => ?_
  subst he
  refine ⟨lim.keeps x.toInCall.keep, codeAny_func ?_⟩
  obtain ⟨t, ht, hq⟩ := hbody A outer s H vs Q E hgd (hr.deeper _) hsp
  have I : Inv (cxOf CX P w K mg base N qual scope f cdv A outer s H E) [] (L2.start N vs) H s1 := inv_start S hr.hd e0 hl r x
  refine wpAny_mono (ht.run [] s1 (L2.start N vs) H _ I hq) (fun fl s' hs => ?_) fun e s' hs => hs
  have fin : ∀ {σ' : L2.St} {H' : Hp} {v : V} {u : Value}, Inv (cxOf CX P w K mg base N qual scope f cdv A outer s H E) [] σ' H' s' → RelV v u → Q v H' → CE outer P w H s Q u s' :=
    fun {σ' H' v u} J rv q => ⟨v, H', J.os, J.bare, J.base, J.hok, rv, q⟩
  cases fl with
  | ret u =>
    obtain ⟨v, σ', H', J, rv, q⟩ := hs
    exact fin J rv q
  | next =>
    obtain ⟨σ', H', J, q⟩ := hs
    exact fin (v := V.non) (u := Value.none) J rfl q
  | brk =>
    obtain ⟨_, _, _, q⟩ := hs
    exact False.elim q
  | cont =>
    obtain ⟨_, _, _, q⟩ := hs
    exact False.elim q

/-! ### calls -/
section
variable {X : Cx} {CX : CXT} {k : Nat} {f C : Addr} {fd : FuncData} {ps : List Str} {sp : Sp} {dvs : List V} {ds : List Value} {E : XK} {x m : Str} {p pos apos : Pos} {e o : Expr} {es : List Expr} {ta : TE} {t : TA}
theorem run_fnG {pins : List (Addr × Obj)} {σ : L2.St} {H : Hp} {s : Shared} {Q : VK} {us : List Value} {vs : List V} (F : FnG X.prog X.w X.K X.mg X.base CX k f fd ps sp) (hgd : X.A.guards = some []) (hr : Room k X.A) (hb : Binds X.K fd ps ds) (hd : Vals dvs ds) (hx : Passes CX X E)
    (I : Inv X pins σ H s) (r : Vals vs us) (h : sp (vs ++ dvs) H Q E) : wpAny (model X.prog X.w) X.A (call (.ref f) us) (EP X pins σ Q) X.xe s := by
  have r2 : Vals (vs ++ dvs) (us ++ ds) := r.append hd
  have hl : (us ++ ds).length = ps.length := by rw [← r2.length]; exact F.len _ _ _ _ h
  refine wpAny_call (codeAny_mono (F.run X.A X.stack s H ⟨us, []⟩ (us ++ ds) (vs ++ dvs) Q E hgd hr I.env0 (hb s us I.kIn hl) r2 h) fun r s' hq => ?_)
  cases r with
  | error e => exact hx pins σ H s e s' I hq
  | ok fl =>
    cases fl with
    | ret u => exact I.after hq
    | next => exact False.elim hq
    | brk => exact False.elim hq
    | cont => exact False.elim hq
theorem pe_callG (F : FnG X.prog X.w X.K X.mg X.base CX k f fd ps sp) (hgd : X.A.guards = some []) (hr : Room k X.A) (hg : Gl X x) (hm : X.mg x = some (.ref f)) (hk : PySem.W.keepIn X.K (.ref f) = true) (hb : Binds X.K fd ps ds) (hd : Vals dvs ds) (hx : Passes CX X E)
    (ha : PA X (e :: es) t) (hdb : (x == ("__debug__" : Str)) = false := by decide) (he : starEach (e :: es) X.env = (false, eval e X.env) :: starEach es X.env := by rfl) (hpl : (backTo pos (starEach es X.env)).any (·.1) = false := by rfl) :
    PE X (.Call (.Name x p) (e :: es) [] pos) (tCall sp dvs E t) := by
  refine ⟨fun pins s σ H Q I h => ?_⟩
  refine wpAny_Call_Name_kw (ld_glob I hg hm ?_ hdb)
  refine PySem.W.callWith_K (h₀ := X.base) I.ok.mod.kin hk (thn (ha.run pos pins s σ H _ I h) fun us s1 ⟨vs, H1, I1, r, q⟩ => ⟨I1.kIn, ?_⟩) he hpl
  exact run_fnG F hgd hr hb hd hx I1 r q
end

/-! ### promises by computations -/
abbrev RR := Res (List MO) PV
abbrev Fn := Nat → List PV → List MO → RR
structure Grow (W W' : Vw) (H H' : Hp) : Prop where
  keep : ∀ a o, H a = some o → a ∉ W.hs → H' a = some o
  gro : ∀ a, H a ≠ none → W'.F a = W.F a ∧ (a ∈ W'.hs → a ∈ W.hs)
def SpPost (K : PySem.W.Frag) (W : Vw) (H : Hp) (Q : VK) (E : XK) : RR → Prop
  | .ok d st' => ∀ v W' H', W.Le W' → Okk K W' st' H' → Grow W W' H H' → Rep K W' v d → Q v H'
  | .exc _ _ => False
  | .stk => False
def spM (K : PySem.W.Frag) (np : Nat) (m : Fn) : Sp := fun vs H Q E => vs.length = np ∧ ∃ n W st ds, Okk K W st H ∧ Reps K W vs ds ∧ SpPost K W H Q E (m n ds st)
def callM (m : Fn) (n : Nat) (cs : M (List PV)) : M PV := bnd cs fun ds s => match m n ds s.sto with
  | .ok d st' => .ok d { s with sto := st' }
  | .exc e st' => .exc e { s with sto := st' }
  | .stk => .stk
section
variable {K : PySem.W.Frag} {C : Ctx} {W W' : Vw} {σ : L2.St} {H H' : Hp} {s : S} {Q : VK} {E : XK} {np n : Nat} {m : Fn} {cs : M (List PV)}
theorem At.call {st' : List MO} (h : At K C W s σ H) (l : W.Le W') (ok : Okk K W' st' H') (g : Grow W W' H H') : At K C W' { s with sto := st' } σ H' := by
  have tr : ∀ {a : Addr}, C.G a ≠ none → H a ≠ none := fun {a} ha => by
    cases e : C.G a with
    | none => exact absurd e ha
    | some o =>
      by_cases hm : a ∈ C.hs0
      · obtain ⟨i, hi⟩ := List.getElem?_of_mem hm
        obtain ⟨_, mo, _, mr⟩ := h.ok.hnd i a (h.pre i a hi)
        obtain ⟨o', e'⟩ := mr.some
        rw [e']
        exact fun z => nomatch z
      · rw [h.keep a o e hm]
        exact fun z => nomatch z
  refine ⟨ok, fun a o e ha => ?_, fun i a e => l.pre i a (h.pre i a e), fun a ha => ?_, h.len, fun i d e => ?_, fun i xs e => ?_, h.dst⟩
  · refine g.keep a o (h.keep a o e ha) fun hm => ha ?_
    exact (h.gro a (by rw [e]; exact fun z => nomatch z)).2 hm
  · obtain ⟨g1, g2⟩ := g.gro a (tr ha)
    obtain ⟨k1, k2⟩ := h.gro a ha
    exact ⟨g1.trans k1, fun z => k2 (g2 z)⟩
  · obtain ⟨v, e1, r⟩ := h.val i d e
    exact ⟨v, e1, r.mono l⟩
  · obtain ⟨a, vs, e1, ow, e2, r⟩ := h.own i xs e
    obtain ⟨g1, g2⟩ := g.gro a (by rw [e2]; exact fun z => nomatch z)
    exact ⟨a, vs, e1, ⟨g1.trans ow.f, fun z => ow.h (g2 z), ow.g⟩, g.keep a _ e2 ow.h, r.mono l⟩
theorem den_call (hl : ∀ ds st d st', m n ds st = .ok d st' → ds.length = np) (h : den K (callM m n cs) σ H Q) : tCall (spM K np m) [] E (denA K cs) σ H Q := by
  obtain ⟨C, W, s, at', p⟩ := h
  refine ⟨C, W, s, at', (Pst.bnd p).imp fun ds s1 W1 H1 l1 at1 p1 vs rvs => ?_⟩
  show spM K np m (vs ++ []) H1 Q E
  rw [List.append_nil]
  cases e : m n ds s1.sto with
  | exc _ _ => simp only [e] at p1; exact p1.elim
  | stk => simp only [e] at p1; exact p1.elim
  | ok d st' =>
    simp only [e] at p1
    refine ⟨by rw [rvs.length]; exact hl _ _ _ _ e, n, W1, s1.sto, ds, at1.ok, rvs, ?_⟩
    rw [e]
    exact fun v W' H' l ok g r => p1 W' H' l (at1.call l ok g) v r

/-- a def's answer from its body's -/
def fnM (np nn : Nat) (body : Nat → M Fl) : Fn := fun n ds st => if ds.length = np then (match body n ⟨ds.map (fun d => some (SV.val d)) ++ List.replicate (nn - np) none, st⟩ with
  | .ok (.rt d) s' => .ok d s'.sto
  | .ok .nx s' => .ok .non s'.sto
  | .ok .bk _ => .stk
  | .ok .ct _ => .stk
  | .exc e s' => .exc e s'.sto
  | .stk => .stk) else .stk
theorem fnM_len {nn : Nat} {body : Nat → M Fl} {ds : List PV} {st st' : List MO} {d : PV} (h : fnM np nn body n ds st = .ok d st') : ds.length = np := by
  unfold fnM at h
  split at h
  · assumption
  · cases h
end
/-- THE RULE: a def keeps the promise of its computation -/
theorem fn_den {P : Program} {w : World} {K : PySem.W.Frag} {mg : Str → Option Value} {base : Heap} {k : Nat} {f : Addr} {fd : FuncData} {x qual : Str} {st : Stmt} {N ps : List Str} {body : Nat → M Fl}
    (F : Fun K x qual st f fd) (S : FnScope N ps (defScope st)) (hN : ps.length ≤ N.length)
    (hbody : ∀ (cdv : Value) (A : Around) (outer : List PySem.Env) (s : Shared) (H : Hp) (E : XK) (n : Nat), (A.deeper (envOfC qual (defScope st) s.heap.objs.size f cdv)).guards = some [] → Room k (A.deeper (envOfC qual (defScope st) s.heap.objs.size f cdv)) →
      PSs (cxOf CX0 P w K mg base N qual (defScope st) f cdv A outer s H E).nox (defBody st) (denS K (body n))) :
    FnG P w K mg base CX0 (k + 1) f fd ps (spM K ps.length (fnM ps.length N.length body)) := by
  obtain ⟨oc, od, kV, doc, pm, an, cdv, ct, osl, rfl, lk, hcd⟩ := F.ex
  refine fn_ofG lk hcd S (fun vs H Q E h => h.1) fun A outer s H vs Q E hgd hr hsp => ?_
  obtain ⟨hl, n, W, sto, ds, ok, rv, post⟩ := hsp
  have hds : ds.length = ps.length := by rw [← rv.length]; exact hl
  refine ⟨_, (hbody cdv A outer s H E n hgd hr).nox, ⟨⟨H, W.F, W.hs⟩, W, ⟨ds.map (fun d => some (SV.val d)) ++ List.replicate (N.length - ps.length) none, sto⟩, ?_, ?_⟩⟩
  · refine ⟨ok, fun a o e _ => e, fun i a e => e, fun a _ => ⟨rfl, fun z => z⟩, ?_, fun i d e => ?_, fun i xs e => ?_, fun i j xs ys a h1 _ _ _ => ?_⟩
    · unfold L2.start
      rw [List.length_append, List.length_append, List.length_map, List.length_map, List.length_replicate, List.length_replicate, hl, hds]
    · have e : (ds.map (fun d => some (SV.val d)) ++ List.replicate (N.length - ps.length) none)[i]? = some (some (.val d)) := e
      by_cases hi : i < ds.length
      · rw [List.getElem?_append_left (by rw [List.length_map]; exact hi), List.getElem?_map] at e
        obtain ⟨d', hd', e2⟩ := Option.map_eq_some_iff.mp e
        cases e2
        obtain ⟨v, hv, r⟩ := rv.get hd'
        refine ⟨v, ?_, r⟩
        unfold L2.start
        rw [List.getElem?_append_left (by rw [List.length_map, hl, ← hds]; exact hi), List.getElem?_map, hv]
        rfl
      · rw [List.getElem?_append_right (by rw [List.length_map]; omega), List.getElem?_replicate] at e
        split at e <;> cases e
    · have e : (ds.map (fun d => some (SV.val d)) ++ List.replicate (N.length - ps.length) none)[i]? = some (some (.own xs)) := e
      by_cases hi : i < ds.length
      · rw [List.getElem?_append_left (by rw [List.length_map]; exact hi), List.getElem?_map] at e
        obtain ⟨d', hd', e2⟩ := Option.map_eq_some_iff.mp e
        cases e2
      · rw [List.getElem?_append_right (by rw [List.length_map]; omega), List.getElem?_replicate] at e
        split at e <;> cases e
    · have e : (ds.map (fun d => some (SV.val d)) ++ List.replicate (N.length - ps.length) none)[i]? = some (some (.own xs)) := h1
      by_cases hi : i < ds.length
      · rw [List.getElem?_append_left (by rw [List.length_map]; exact hi), List.getElem?_map] at e
        obtain ⟨d', hd', e2⟩ := Option.map_eq_some_iff.mp e
        cases e2
      · rw [List.getElem?_append_right (by rw [List.length_map]; omega), List.getElem?_replicate] at e
        split at e <;> cases e
  · unfold fnM at post
    rw [if_pos hds] at post
    cases e : body n ⟨ds.map (fun d => some (SV.val d)) ++ List.replicate (N.length - ps.length) none, sto⟩ with
    | exc _ _ => simp only [e] at post; exact post.elim
    | stk => simp only [e] at post; exact post.elim
    | ok fl s' =>
      simp only [e] at post
      have gr : ∀ {W' : Vw} {σ' : L2.St} {H' : Hp}, At K ⟨H, W.F, W.hs⟩ W' s' σ' H' → Grow W W' H H' := fun a => ⟨fun b o e hb => a.keep b o e hb, fun b hb => a.gro b hb⟩
      cases fl with
      | nx => exact fun W' σ' H' l a => post .non W' H' l a.ok (gr a) .non
      | rt d => exact fun W' σ' H' l a v rv => post v W' H' l a.ok (gr a) rv
      | bk => exact post.elim
      | ct => exact post.elim

/-! ### repr -/
def rRepr (K : PySem.W.Frag) : List V → Hp → VK → Prop := fun vs H Q => ∃ x d, vs = [x] ∧ Dp K H x d ∧ d.showable = true ∧ d.hasDict = false ∧ d.depth ≤ 64 ∧ d.shown.length ≤ sizeLine ∧ Q (.str d.shown) H
theorem call_repr {X : Cx} (hgd : X.A.guards = some []) (hu : X.A.units + 128 < cLine) : CallR X (.builtin "repr") (rRepr X.K) := by
  intro pins s σ H vs us Q I r h
  obtain ⟨x, d, rfl, dp, hs, hd, h64, hz, q⟩ := h
  cases r with
  | cons rx rt =>
    cases rt
    rename_i u
    cases dp with
    | non =>
      cases rx
      exact P.repr_of_none ⟨.str _, H, I.tok _, ⟨_, rfl⟩, by simpa only [PyData.shown] using q⟩
    | bl b =>
      cases rx
      exact P.repr_of_bool ⟨.str _, H, I.tok _, ⟨_, rfl⟩, by simpa only [PyData.shown] using q⟩
    | int i =>
      obtain ⟨t, rfl⟩ := rx
      exact P.repr_of_int (by simpa [PyData.showable] using hs) ⟨.str _, H, I.tok _, ⟨_, rfl⟩, by simpa only [PyData.shown] using q⟩
    | str y =>
      obtain ⟨t, rfl⟩ := rx
      simp only [PyData.shown] at q hz
      exact P.repr_of_str ⟨.str _, H, I.tok _, ⟨_, rfl⟩, q⟩ hz
    | lst hq ha =>
      cases rx
      obtain ⟨as, rd⟩ := Dp.reads I _ _ _ (.lst hq ha) rfl
      exact repr_of_reads' rd hs (PyData.noDict_hsm hd) hgd (by omega) (fun _ _ e => e) (fun h' u tk hk => ⟨.str _, H, I.kept hk, ⟨_, rfl⟩, q⟩) hz
    | tup hq ha =>
      cases rx
      obtain ⟨as, rd⟩ := Dp.reads I _ _ _ (.tup hq ha) rfl
      exact repr_of_reads' rd hs (PyData.noDict_hsm hd) hgd (by omega) (fun _ _ e => e) (fun h' u tk hk => ⟨.str _, H, I.kept hk, ⟨_, rfl⟩, q⟩) hz
def reprP (a : PV) : Option PV := match a.toD with
  | some d => if (d.showable = true ∧ d.hasDict = false) ∧ d.depth ≤ 64 ∧ d.shown.length ≤ sizeLine then some (.str d.shown) else none
  | none => none
theorem fn_repr {K : PySem.W.Frag} : Fn1 (rRepr K) K (fun a => lft (reprP a)) := by
  intro C W s σ H v a Q at' ra p
  obtain ⟨d, e, q⟩ := p.lft'
  have q0 := q W H (Vw.Le.refl W) at'
  unfold reprP at e
  split at e
  · rename_i x hx
    split at e
    · rename_i hc
      cases e
      exact ⟨v, x, rfl, ra.dp at'.ok.sub hx, hc.1.1, hc.1.2, hc.2.1, hc.2.2, q0 _ (.str _)⟩
    · cases e
  · cases e
end Dn
/-! Den6: sorted. -/
namespace Dn
open PySem L2 PySem.Spec PyProof.Rows

/-! ### texts in order -/
def leS (x y : Str) : Bool := !decide (y.cps.toList < x.cps.toList)
def sortS (xs : List Str) : List Str := xs.mergeSort leS
theorem str_ext {x y : Str} (h : x.cps.toList = y.cps.toList) : x = y := by
  cases x; cases y
  congr
  exact Array.toList_inj.mp h
theorem leS_iff {x y : Str} : leS x y = true ↔ x.cps.toList ≤ y.cps.toList := by
  unfold leS
  rw [Bool.not_eq_true', decide_eq_false_iff_not]
  exact List.not_lt
theorem leS_trans (x y z : Str) (h : leS x y = true) (k : leS y z = true) : leS x z = true := leS_iff.mpr (List.le_trans (leS_iff.mp h) (leS_iff.mp k))
theorem leS_total (x y : Str) : (leS x y || leS y x) = true := by
  rcases List.le_total x.cps.toList y.cps.toList with h | h
  · rw [leS_iff.mpr h]; rfl
  · rw [leS_iff.mpr h, Bool.or_true]
theorem leS_anti {x y : Str} (h : leS x y = true) (k : leS y x = true) : x = y := str_ext (List.le_antisymm (leS_iff.mp h) (leS_iff.mp k))
theorem rising_pw : ∀ (r : List Str) (p : Str), risingS p r = true → (p :: r).Pairwise (fun a b => leS a b = true)
  | [], p, _ => List.pairwise_singleton _ _
  | x :: r, p, h => by
    unfold risingS at h
    rw [Bool.and_eq_true, ltCps_eq] at h
    have ih := rising_pw r x h.2
    refine List.pairwise_cons.mpr ⟨fun y hy => ?_, ih⟩
    rcases List.mem_cons.mp hy with e | hy
    · subst e; exact h.1
    · exact leS_trans _ _ _ h.1 ((List.pairwise_cons.mp ih).1 y hy)
theorem sortS_of {xs ys : List Str} (hp : ys.Perm xs) (hs : sortedS ys = true) : ys = sortS xs := by
  have h1 : ys.Pairwise (fun a b => leS a b = true) := by
    cases ys with
    | nil => exact .nil
    | cons y r => exact rising_pw r y hs
  have h2 : (sortS xs).Pairwise (fun a b => leS a b = true) := List.pairwise_mergeSort leS_trans leS_total xs
  exact List.Perm.eq_of_pairwise (fun x y _ _ a b => leS_anti a b) h1 h2 (hp.trans (List.mergeSort_perm xs leS).symm)
theorem sortS_perm (xs : List Str) : (sortS xs).Perm xs := List.mergeSort_perm xs leS
theorem sortS_length (xs : List Str) : (sortS xs).length = xs.length := (sortS_perm xs).length_eq

/-! ### a tuple collected -/
section
variable {prog : Program} {w : World} {A : Around} {E : Value → Shared → Prop} {s : Shared}
theorem collect_tup {l : Addr} {vs : List Value} {Q : List Value → Shared → Prop} (hl : IsTup s.heap l vs.toArray)
    (h : Q vs { s with heap := (s.heap.push (seqObj "list" #[] 0)).update s.heap.objs.size (Obj.mapSeq (· ++ vs.toArray)) }) (hsz : vs.length ≤ sizeLine) :
    wpAny (model prog w) A (collect (.ref l)) Q E s := by
  obtain ⟨o, ho, hc, n, hd⟩ := id hl
  unfold collect
  refine wpAny_bind (wpAny_runValue (codeAny_builtin entry_proto_collect' ?_))
  show wpAny _ _ (do again (.builtin "list.__iadd__" ⟨[← newList [], .ref l], []⟩)) _ _ s
  refine wpAny_bind (wpAny_newList (wpAny_pure ⟨Code.quiet_builtin _ (by decide +kernel), codeAny_builtin entry_list_iadd' ?_⟩))
  show wpAny _ _ (Builtin.List.listExtendWith (.ref s.heap.objs.size) (.ref l) (.ref s.heap.objs.size)) _ _ { s with heap := s.heap.push (seqObj "list" #[] 0) }
  unfold Builtin.List.listExtendWith
  have ho' : (s.heap.push (seqObj "list" #[] 0)).get? l = some o := Heap.get?_push_of_some _ ho
  refine wpAny_bind (wpAny_typeOf (T := "tuple") ⟨o, ho', hc⟩ ?_)
  have ht : (Value.type "tuple" == Value.type "tuple") = true := by rfl
  rw [if_pos (by rw [ht]; simp)]
  refine wpAny_bind (listItems_at ho' hd ?_)
  refine wpAny_bind (listItems_at (xs := #[]) (n := 0) (Heap.get?_push_size _ rfl) rfl ?_)
  rw [if_neg (by simp)]
  refine wpAny_bind (listUpdate_at (xs := #[]) (n := 0) (Heap.get?_push_size _ rfl) rfl ?_ (Nat.zero_le _) (by show (#[] ++ vs.toArray).size ≤ sizeLine + 1; simp only [Array.size_append, List.size_toArray, List.length_nil]; omega))
  refine wpAny_pure ?_
  show wpAny (model prog w) A (do
      let o ← load s.heap.objs.size
      match o.data with
      | .seq xs _ => pure xs.toList
      | _ => unsupported "internal:collect") Q E { s with heap := (s.heap.push (seqObj "list" #[] 0)).update s.heap.objs.size (Obj.mapSeq (· ++ vs.toArray)) }
  refine wpAny_bind (wpAny_load (get?_update_seq (Heap.get?_push_size _ rfl) _) ?_)
  show wpAny _ _ (pure ((#[] : Array Value) ++ vs.toArray).toList) Q E _
  rw [show ((#[] : Array Value) ++ vs.toArray).toList = vs by simp]
  exact wpAny_pure h
theorem sorted_strsT {l : Addr} {vs : List Value} {ss : List Str} {Q : Value → Shared → Prop} (hl : IsTup s.heap l vs.toArray) (hS : StrsAre vs ss) (hL : vs.length ≤ sizeLine)
    (h : ∀ (out : Array Value) (ss' : List Str), StrsAre out.toList ss' → ss'.Perm ss → sortedS ss' = true → Q (.ref (s.heap.objs.size + 1)) { s with heap := sortedAll s.heap vs out }) :
    wpAny (model prog w) A (call (.builtin "sorted") [.ref l]) Q E s := by
  refine Calls.call_function_entry kind_sorted plain_sorted entry_sorted (args_sorted1 _) ?_
  unfold Builtin.«sorted»
  refine wpAny_bind (m := checkCount "sorted" 1 1 _) (wpAny_pure ?_)
  refine wpAny_bind (collect_tup hl ?_ hL)
  refine wpAny_bind (wpAny_newList ?_ hL)
  have hsz : ((s.heap.push (seqObj "list" #[] 0)).update s.heap.objs.size (Obj.mapSeq (· ++ vs.toArray))).objs.size = s.heap.objs.size + 1 := by
    rw [Heap.size_update, size_push']
  have hoL : (((s.heap.push (seqObj "list" #[] 0)).update s.heap.objs.size (Obj.mapSeq (· ++ vs.toArray))).push (seqObj "list" vs.toArray 0)).get? (s.heap.objs.size + 1) = some (seqObj "list" vs.toArray 0) := by
    rw [← hsz]; exact Heap.get?_push_size _ rfl
  show wpAny _ _ _ _ _ { s with heap := ((s.heap.push (seqObj "list" #[] 0)).update s.heap.objs.size (Obj.mapSeq (· ++ vs.toArray))).push (seqObj "list" vs.toArray 0) }
  rw [hsz]
  refine wpAny_bind (wpAny_holding (wpAny_call_entry slot_list_sort ⟨_, hoL, rfl⟩ entry_list_sort (list_sort_treeKAny strKind_oneLt hoL hS.keysOf (fun v₁ v₂ rest e => keyKind_strs (by rw [← e]; exact hS)) hL fun st' a1 a2 => ⟨_, rfl, ?_⟩) (args_list_sort _)))
  obtain ⟨ss', h1, h2, h3⟩ := sorted_out_str hS a1 a2
  exact wpAny_pure ⟨_, rfl, h _ ss' h1 h2 h3⟩
end
def rSortU (K : PySem.W.Frag) : List V → Hp → VK → Prop := fun vs H Q => ∃ (a : Addr) (xs : List Str), vs = [V.ref a] ∧ (SqL K H a (xs.map V.str) ∨ SqT K H a (xs.map V.str)) ∧
  ∀ (p : Addr), H p = none → Q (.ref p) (upd H p (.lst ((sortS xs).map V.str)))
theorem cr_sortU {X : Cx} : CallR X (.builtin "sorted") (rSortU X.K) := by
  intro pins s σ H vs us Q I r h
  obtain ⟨a, xs, rfl, hs, q⟩ := h
  rw [Vals.ref1 r]
  have fin : ∀ (its : List Value), Vals (xs.map V.str) its → xs.length ≤ sizeLine → ∀ (out : Array Value) (ss' : List Str), StrsAre out.toList ss' → ss'.Perm xs → sortedS ss' = true →
      EP X pins σ Q (.ref (s.heap.objs.size + 1)) { s with heap := sortedAll s.heap its out } := fun its rv hz out ys h1 h2 h3 => by
    obtain ⟨ep, he'⟩ := sortedAll_at s.heap its out
    have e := sortS_of h2 h3
    subst e
    have hlen : ((sortS xs).map V.str).length ≤ sizeLine := by rw [List.length_map, sortS_length]; exact hz
    exact ⟨.ref _, upd H (s.heap.objs.size + 1) (.lst ((sortS xs).map V.str)), I.laid (t' := s.toks) (fun _ _ => sortedAll_old) (Nat.le_succ _) ⟨hlen, out.toList, ep, vals_of_strs h1, he'⟩, rfl, q _ (I.hok.fresh (Nat.le_succ _))⟩
  rcases hs with hs | hs
  · obtain ⟨its, rv, hl, hz⟩ := I.list hs
    have hlen0 := rv.length
    rw [List.length_map] at hlen0 hz
    exact sorted_strsAny hl.isList rv.strs (by omega) (fin its rv hz)
  · obtain ⟨its, rv, hl, hz⟩ := I.tuple hs
    have hlen0 := rv.length
    rw [List.length_map] at hlen0 hz
    exact sorted_strsT hl rv.strs (by omega) (fin its rv hz)
def sortP : PV → Option (List PV)
  | .lst xs => (strsOf xs).map fun ss => (sortS ss).map .str
  | .tup xs => (strsOf xs).map fun ss => (sortS ss).map .str
  | _ => none
theorem fn_sort {K : PySem.W.Frag} : Fn1O (rSortU K) K (fun a => lft (sortP a)) := by
  intro C W s σ H v a Q at' ra p
  obtain ⟨d, e, q⟩ := p.lft'
  have q0 := q W H (Vw.Le.refl W) at'
  unfold sortP at e
  split at e
  · obtain ⟨ss, e1, rfl⟩ := Option.map_eq_some_iff.mp e
    obtain ⟨x, vs, rfl, hx, rx⟩ := ra.lst at'.ok.sub
    have ew := strsOf_ok e1
    subst ew
    have ew := rx.of_strs
    subst ew
    exact ⟨x, ss, rfl, .inl (SqL.of hx), fun l hl => q0 l _ hl (Reps.strs _)⟩
  · obtain ⟨ss, e1, rfl⟩ := Option.map_eq_some_iff.mp e
    obtain ⟨x, vs, rfl, hx, hx2, rx⟩ := ra.tup at'.ok.sub
    have ew := strsOf_ok e1
    subst ew
    have ew := rx.of_strs
    subst ew
    exact ⟨x, ss, rfl, .inr hx2, fun l hl => q0 l _ hl (Reps.strs _)⟩
  · cases e

/-! ### by a key: stable -/
section
variable {α β : Type}
def insK (p : Int × α) : List (Int × α) → List (Int × α)
  | [] => [p]
  | q :: r => if p.1 ≤ q.1 then p :: q :: r else q :: insK p r
def sortK : List (Int × α) → List (Int × α)
  | [] => []
  | p :: r => insK p (sortK r)
abbrev srtd (l : List (Int × α)) : Prop := l.Pairwise fun p q => p.1 ≤ q.1
theorem insK_mem {p x : Int × α} : ∀ {l : List (Int × α)}, x ∈ insK p l ↔ x = p ∨ x ∈ l
  | [] => by simp [insK]
  | q :: r => by
    unfold insK
    split
    · simp
    · rw [List.mem_cons, insK_mem, List.mem_cons]
      constructor
      · rintro (h | h | h)
        · exact .inr (.inl h)
        · exact .inl h
        · exact .inr (.inr h)
      · rintro (h | h | h)
        · exact .inr (.inl h)
        · exact .inl h
        · exact .inr (.inr h)
theorem insK_srtd {p : Int × α} : ∀ {l : List (Int × α)}, srtd l → srtd (insK p l)
  | [], _ => List.pairwise_singleton _ _
  | q :: r, h => by
    have hq := List.pairwise_cons.mp h
    unfold insK
    split
    · rename_i hle
      refine List.pairwise_cons.mpr ⟨fun x hx => ?_, h⟩
      rcases List.mem_cons.mp hx with e | hx
      · rw [e]; exact hle
      · exact Int.le_trans hle (hq.1 x hx)
    · rename_i hle
      refine List.pairwise_cons.mpr ⟨fun x hx => ?_, insK_srtd hq.2⟩
      rcases insK_mem.mp hx with e | hx
      · rw [e]; omega
      · exact hq.1 x hx
theorem sortK_srtd : ∀ l : List (Int × α), srtd (sortK l)
  | [] => .nil
  | p :: r => insK_srtd (sortK_srtd r)
theorem insK_perm {p : Int × α} : ∀ {l : List (Int × α)}, (insK p l).Perm (p :: l)
  | [] => .refl _
  | q :: r => by
    unfold insK
    split
    · exact .refl _
    · exact (List.Perm.cons q insK_perm).trans (List.Perm.swap p q r)
theorem sortK_perm : ∀ l : List (Int × α), (sortK l).Perm l
  | [] => .refl _
  | p :: r => insK_perm.trans (List.Perm.cons p (sortK_perm r))
theorem insK_filter {p : Int × α} {c : Int} : ∀ {l : List (Int × α)}, srtd l → (insK p l).filter (fun q => q.1 == c) = (p :: l).filter (fun q => q.1 == c)
  | [], _ => rfl
  | q :: r, h => by
    have hq := List.pairwise_cons.mp h
    unfold insK
    split
    · rfl
    · rename_i hle
      rw [List.filter_cons, insK_filter hq.2]
      have hpq : ¬ p.1 = q.1 := by omega
      by_cases hc : q.1 = c
      · have hpc : ¬ p.1 = c := by omega
        simp [List.filter_cons, hc, hpc]
      · simp [List.filter_cons, hc]
theorem sortK_filter {c : Int} : ∀ l : List (Int × α), (sortK l).filter (fun q => q.1 == c) = l.filter (fun q => q.1 == c)
  | [] => rfl
  | p :: r => by
    show (insK p (sortK r)).filter _ = _
    rw [insK_filter (sortK_srtd r), List.filter_cons, List.filter_cons, sortK_filter r]
theorem srtd_uniq : ∀ {l k : List (Int × α)}, srtd l → srtd k → (∀ c : Int, l.filter (fun q => q.1 == c) = k.filter (fun q => q.1 == c)) → l = k
  | [], k, _, _, h => by
    cases k with
    | nil => rfl
    | cons q r =>
      have := h q.1
      simp at this
  | p :: r, k, hl, hk, h => by
    cases k with
    | nil =>
      have := h p.1
      simp at this
    | cons q t =>
      have h1 := h p.1
      have h2 := h q.1
      have hp := List.pairwise_cons.mp hl
      have hq := List.pairwise_cons.mp hk
      have mq : p ∈ (q :: t) := by
        have : p ∈ (q :: t).filter (fun x => x.1 == p.1) := by rw [← h1]; simp
        exact (List.mem_filter.mp this).1
      have mp : q ∈ (p :: r) := by
        have : q ∈ (p :: r).filter (fun x => x.1 == q.1) := by rw [h2]; simp
        exact (List.mem_filter.mp this).1
      have le1 : q.1 ≤ p.1 := by
        rcases List.mem_cons.mp mq with e | m
        · rw [e]; exact Int.le_refl _
        · exact hq.1 p m
      have le2 : p.1 ≤ q.1 := by
        rcases List.mem_cons.mp mp with e | m
        · rw [e]; exact Int.le_refl _
        · exact hp.1 q m
      have e : p.1 = q.1 := Int.le_antisymm le2 le1
      have e' : p = q := by
        rw [List.filter_cons, List.filter_cons, if_pos (by simp), if_pos (by simp [e])] at h1
        exact (List.cons.inj h1).1
      subst e'
      congr 1
      refine srtd_uniq hp.2 hq.2 fun c => ?_
      have hc := h c
      rw [List.filter_cons, List.filter_cons] at hc
      split at hc
      · exact (List.cons.inj hc).2
      · exact hc
/-- the same keys, the items in step: the same arrangement -/
theorem insK_rel {R : α → β → Prop} {c : Int} {x : α} {y : β} (h : R x y) : ∀ {l : List (Int × α)} {k : List (Int × β)}, Paired (fun p q => p.1 = q.1 ∧ R p.2 q.2) l k → Paired (fun p q => p.1 = q.1 ∧ R p.2 q.2) (insK (c, x) l) (insK (c, y) k)
  | _, _, .nil => .cons ⟨rfl, h⟩ .nil
  | p :: l, q :: k, .cons e t => by
    unfold insK
    rw [show (c, y).1 = (c, x).1 from rfl, ← e.1]
    split
    · exact .cons ⟨rfl, h⟩ (.cons e t)
    · exact .cons e (insK_rel h t)
theorem sortK_rel {R : α → β → Prop} : ∀ {l : List (Int × α)} {k : List (Int × β)}, Paired (fun p q => p.1 = q.1 ∧ R p.2 q.2) l k → Paired (fun p q => p.1 = q.1 ∧ R p.2 q.2) (sortK l) (sortK k)
  | _, _, .nil => .nil
  | (c, x) :: l, (c', y) :: k, .cons e t => by
    obtain ⟨e1, e2⟩ := e
    have e1 : c = c' := e1
    subst e1
    exact insK_rel e2 (sortK_rel t)
end

/-! ### sorted(xs, key=len), the items tuples -/
theorem obj_some {P : Program} {w : World} {H : Hp} {h : Heap} {a : Addr} {o : HO} (x : ObjOk P w H h a o) : ∃ ob, h.get? a = some ob := by
  cases o with
  | lst xs => obtain ⟨_, _, _, _, e⟩ := x; exact ⟨_, e⟩
  | tup xs => obtain ⟨_, _, _, ob, e, _⟩ := x; exact ⟨_, e⟩
  | dK kvs => obtain ⟨_, _, _, _, o, _, _, e, _⟩ := x; exact ⟨_, e⟩
  | dT kvs => obtain ⟨_, _, _, _, o, _, _, e, _⟩ := x; exact ⟨_, e⟩
  | set S n => obtain ⟨o, _, _, _, e, _⟩ := x; exact ⟨_, e⟩
  | ins C dx fs => obtain ⟨_, _, _, e, _⟩ := x; exact ⟨_, e⟩
  | own y => exact x
  | xd fs => obtain ⟨_, ⟨o, _, _, e, _⟩, _⟩ := x; exact ⟨_, e⟩
  | rng lo hi => obtain ⟨_, _, _, e⟩ := x; exact ⟨_, e⟩
  | frz ob u => obtain ⟨e, _⟩ := x; exact ⟨_, e⟩
  | tbl ps => exact ⟨_, show h.get? a = some _ from x⟩
  | met f y => exact ⟨_, show h.get? a = some _ from x⟩
  | ext φ => obtain ⟨_, e, _⟩ := x; exact e
/-- behind a call that kept every object but the frame's and laid one list -/
theorem Inv.laidN {X : Cx} {pins : List (Addr × Obj)} {σ : L2.St} {H : Hp} {s : Shared} {h' : Heap} {tk : Nat} {m : Str → Option Value} {D : Addr} {out : Array Value} {c : Nat} {vs : List V} (I : Inv X pins σ H s) (F : Fr X.base X.env.locals s.heap m) (F' : Fr X.base X.env.locals h' m)
    (N : News X.base X.env.locals h' ((D, seqObj "list" out c) :: allNews X.base s.heap X.env.locals)) (hD : ∀ q ∈ allNews X.base s.heap X.env.locals, q.1 < D) (hz : vs.length ≤ sizeLine) (r : Vals vs out.toList) :
    Inv X pins σ (upd H D (.lst vs)) { s with heap := h', toks := tk } ∧ H D = none := by
  obtain ⟨d1, d2, d3⟩ := N _ List.mem_cons_self
  have d1 : h'.get? D = some (seqObj "list" out c) := d1
  have d2 : D ≠ X.env.locals := d2
  have d3 : X.base.get? D = none := d3
  have kp : ∀ b o, b ≠ X.env.locals → s.heap.get? b = some o → h'.get? b = some o := fun b o hb e => by
    cases q : X.base.get? b with
    | some u =>
      have := I.bk b u q
      rw [e] at this; cases this
      exact F'.keep b _ q
    | none => exact (N (b, o) (List.mem_cons_of_mem _ (mem_allNews hb q e))).1
  have ne : ∀ b o, s.heap.get? b = some o → b ≠ D := fun b o e z => by
    subst z
    exact absurd (hD (b, o) (mem_allNews d2 d3 e)) (Nat.lt_irrefl _)
  have hn : H D = none := by
    cases q : H D with
    | none => rfl
    | some u =>
      obtain ⟨o, e⟩ := obj_some (I.hok D u q)
      exact absurd rfl (ne D o e)
  have neL : ∀ {b u}, H b = some u → b ≠ X.env.locals := fun {b u} e z => by rw [z, I.free] at e; cases e
  refine ⟨I.step (ch := []) (g' := s.gens) (d' := s.drawn) (fun _ z => nomatch z) (fun b o hb _ _ e _ => kp b o hb e) (fun b o hb _ _ e _ => ⟨o.slots, kp b o hb e⟩) (fun b o _ e n => by rw [upd_ne (ne b o e)]; exact n) (fun b o _ e => ?_)
    (fun b xs e => by rw [upd_ne (ne_of_none e hn)]; exact e) (fun b o u e => by rw [upd_ne (ne_of_none e hn)]; exact e) (fun b ps e => ⟨#[], by rw [upd_ne (ne_of_none e hn), e]; simp⟩) (fun m' hm => by rw [hm.eq_nsMap, ← F.ns.eq_nsMap]; exact F'.ns) (fun b u e => ?_) I.bare, hn⟩
  · by_cases hb : b = X.env.locals
    · subst hb
      obtain ⟨o', _, _, e', _⟩ := F'.ns
      exact ⟨o', e'⟩
    · exact ⟨o, kp b o hb e⟩
  · by_cases hb : b = D
    · subst hb
      rw [upd_same] at e
      cases e
      exact ⟨hz, out.toList, c, r, d1⟩
    · rw [upd_ne hb] at e
      refine (I.hok b u e).stay (fun a v ha q => kp a v ?_ q) (fun a q => by rw [upd_ne (ne_of_none q hn)]; exact q) fun a xs q => by rw [upd_ne (ne_of_none q hn)]; exact q
      rcases ha with z | z
      · rw [z]; exact neL e
      · exact neL z

def rSortLen (K : PySem.W.Frag) : V → Hp → VK → Prop := fun x H Q => ∃ (a : Addr) (vs : List V) (ns : List Int), x = .ref a ∧ SqL K H a vs ∧ Paired (fun v n => ∃ (t : Addr) (ws : List V), v = V.ref t ∧ SqT K H t ws ∧ n = (ws.length : Int)) vs ns ∧
  ∀ p, H p = none → Q (.ref p) (upd H p (.lst ((sortK (ns.zip vs)).map (·.2))))
theorem zip_paired {K : PySem.W.Frag} {H : Hp} : ∀ {ns : List Int} {vs : List V} {us : List Value}, Vals vs us → vs.length = ns.length → Paired (fun (p : Int × V) (q : Int × Value) => p.1 = q.1 ∧ RelV p.2 q.2) (ns.zip vs) (ns.zip us)
  | [], _, _, _, _ => .nil
  | n :: ns, [], us, r, h => by cases h
  | n :: ns, v :: vs, u :: us, .cons e t, h => .cons ⟨rfl, e⟩ (zip_paired (K := K) (H := H) t (Nat.succ.inj h))
theorem snd_vals : ∀ {l : List (Int × V)} {k : List (Int × Value)}, Paired (fun (p : Int × V) (q : Int × Value) => p.1 = q.1 ∧ RelV p.2 q.2) l k → Vals (l.map (·.2)) (k.map (·.2))
  | _, _, .nil => .nil
  | _, _, .cons e t => .cons e.2 (snd_vals t)
theorem pe_sortLen {X : Cx} {e : Expr} {te : TE} {p p2 pos kpos : Pos} (he : PE X e te) (hg : Gl X "sorted") (hm : X.mg "sorted" = none) (hg2 : Gl X "len") (hm2 : X.mg "len" = none)
    (hpl : (backTo pos (starEach [e] X.env)) = [(false, eval e X.env)] := by rfl)
    (hk : (backToKw pos (keywordEach [⟨some "key", .Name "len" p2, kpos⟩] X.env)) = [(some (Str.ofString "key"), do let v ← eval (.Name "len" p2) X.env; standAt pos; pure v)] := by rfl) :
    PE X (.Call (.Name "sorted" p) [e] [⟨some "key", .Name "len" p2, kpos⟩] pos) (fun σ H Q => te σ H fun x H1 => rSortLen X.K x H1 Q) := by
  refine ⟨fun pins s σ H Q I h => ?_⟩
  refine wpAny_Call_Name_kw (ld_blt (u := .builtin "sorted") I hg hm (by decide +kernel) ?_)
  refine callWith_kw ?_ hpl (by rw [hpl]; rfl) (by rw [hk]; rfl) (by rw [hk]; rfl)
  rw [hpl, hk]
  refine Calls.spliced_cons (thn (he.run pins s σ H _ I h) fun u s1 ⟨x, H1, I1, r1, q1⟩ => Calls.spliced_nil ?_)
  show wpAny _ _ (evalAll [do let v ← eval (.Name "len" p2) X.env; standAt pos; pure v]) _ _ s1
  refine wpAny_evalAll_cons (wpAny_bind (ld_blt (u := .builtin "len") I1 hg2 hm2 (by decide +kernel) (wpAny_bind (wpAny_standAt (wpAny_pure (wpAny_evalAll_nil ?_))))))
  show wpAny _ _ (call (.builtin "sorted") [u] [(Str.ofString "key", .builtin "len")]) _ _ s1
  obtain ⟨a, vs, ns, rfl, hq, hp, q⟩ := q1
  cases r1
  obtain ⟨its, rv, pl, hz⟩ := I1.list hq
  obtain ⟨m, F⟩ := I1.fr
  have hlen := rv.length
  have hpl2 := Paired.length hp
  refine ksk_sortedSt (b := false) F news_all pl.isList (kz := ns) (by omega) (by omega) (ksk_s1 _ _) (fun x => ksk_l1 _ _) (fun x => ksk_t4 "len" x) (fun i v k hv hk' hh tk own F1 N1 => ?_) (fun D h' tk out c F' N' hD ho => ?_)
  · -- the key of an item
    have hi : i < its.length := (List.getElem?_eq_some_iff.mp hv).1
    have hvs : vs[i]? = some vs[i] := List.getElem?_eq_getElem (by omega)
    obtain ⟨v', hv', rr⟩ := rv.get hvs
    rw [hv] at hv'
    cases hv'
    have gp : ∀ {vs : List V} {ns : List Int} {i : Nat} {x : V} {k : Int}, Paired (fun v n => ∃ (t : Addr) (ws : List V), v = V.ref t ∧ SqT X.K H1 t ws ∧ n = (ws.length : Int)) vs ns → vs[i]? = some x → ns[i]? = some k → ∃ (t : Addr) (ws : List V), x = V.ref t ∧ SqT X.K H1 t ws ∧ k = (ws.length : Int) := by
      intro vs ns i x k h
      induction h generalizing i with
      | nil => intro e; simp at e
      | cons a b ih =>
        cases i with
        | zero => intro e1 e2; simp at e1 e2; subst e1 e2; exact a
        | succ i => intro e1 e2; exact ih (by simpa using e1) (by simpa using e2)
    obtain ⟨t, ws, e1, ht, rfl⟩ := gp hp hvs hk'
    rw [e1] at rr
    cases rr
    obtain ⟨wits, rw', pt, wz⟩ := I1.tuple ht
    have wl := rw'.length
    -- the tuple stands in the heap of the turn
    have pt' : IsTup hh t wits.toArray := by
      obtain ⟨o, eo, rest⟩ := pt
      refine ⟨o, ?_, rest⟩
      cases hb : X.base.get? t with
      | some u =>
        have := I1.bk t u hb
        rw [eo] at this
        cases this
        exact F1.keep t _ hb
      | none =>
        have tL : t ≠ X.env.locals := fun z => by
          obtain ⟨o', _, _, e', d', _⟩ := F.ns
          rw [z, e'] at eo
          cases eo
          obtain ⟨_, n, hd⟩ := rest
          rw [d'] at hd
          cases hd
        exact (N1 (t, o) (List.mem_append_left _ (mem_allNews tL hb eo))).1
    have hl63 := line63
    have hs : sizeLine = 16777216 := sizeLine_eq
    refine PyProof.Rows.len_tuple pt' (by simp only [List.size_toArray]; omega) ?_
    have es : (wits.toArray.size : Int) = (ws.length : Int) := by simp only [List.size_toArray]; rw [wl]
    rw [es]
    exact ⟨hh, tk + 1 + 1, tk + 1, rfl, rfl, F1, N1⟩
  · obtain ⟨ps, p1, p2, p3, p4⟩ := ho
    have hps : ps = sortK (ns.zip its) := srtd_uniq (p3.imp fun h => by simpa using h) (sortK_srtd _) fun c => by rw [p4 c, sortK_filter]
    have hv : Vals ((sortK (ns.zip vs)).map (·.2)) out.toList := by
      rw [p2, hps]
      exact snd_vals (sortK_rel (zip_paired (K := X.K) (H := H1) rv hpl2))
    have hz2 : ((sortK (ns.zip vs)).map (·.2)).length ≤ sizeLine := by
      rw [List.length_map, (sortK_perm _).length_eq, List.length_zip]
      omega
    obtain ⟨I2, hn⟩ := Inv.laidN (tk := tk) I1 F F' N' hD hz2 hv
    exact ⟨.ref D, _, I2, rfl, q D hn⟩
def tupLens : List PV → Option (List Int)
  | [] => some []
  | .tup xs :: r => (tupLens r).map ((xs.length : Int) :: ·)
  | _ :: _ => none
def sortLenP : PV → Option (List PV)
  | .lst xs => (tupLens xs).map fun ns => (sortK (ns.zip xs)).map (·.2)
  | _ => none
theorem reps_snd {K : PySem.W.Frag} {W : Vw} : ∀ {l : List (Int × V)} {k : List (Int × PV)}, Paired (fun (p : Int × V) (q : Int × PV) => p.1 = q.1 ∧ Rep K W p.2 q.2) l k → Reps K W (l.map (·.2)) (k.map (·.2))
  | _, _, .nil => .nil
  | _, _, .cons e t => .cons e.2 (reps_snd t)
theorem zip_reps {K : PySem.W.Frag} {W : Vw} : ∀ {ns : List Int} {vs : List V} {ds : List PV}, Reps K W vs ds → vs.length = ns.length → Paired (fun (p : Int × V) (q : Int × PV) => p.1 = q.1 ∧ Rep K W p.2 q.2) (ns.zip vs) (ns.zip ds)
  | [], _, _, _, _ => .nil
  | n :: ns, [], ds, r, h => by cases h
  | n :: ns, v :: vs, d :: ds, .cons e t, h => .cons ⟨rfl, e⟩ (zip_reps t (Nat.succ.inj h))
theorem tupLens_ok {K : PySem.W.Frag} {W : Vw} {H : Hp} (es : Same W.F H) : ∀ {vs : List V} {ds : List PV} {ns : List Int}, Reps K W vs ds → tupLens ds = some ns → Paired (fun v n => ∃ (t : Addr) (ws : List V), v = V.ref t ∧ SqT K H t ws ∧ n = (ws.length : Int)) vs ns
  | _, _, _, .nil, h => by cases h; exact .nil
  | _, .tup xs :: r, ns, .cons (.tup hq hr) t, h => by
    have h : (tupLens r).map ((xs.length : Int) :: ·) = some ns := h
    obtain ⟨ms, e1, rfl⟩ := Option.map_eq_some_iff.mp h
    exact .cons ⟨_, _, rfl, same_t es hq, by rw [hr.length]⟩ (tupLens_ok es t e1)
  | _, .non :: _, _, .cons .., h => by cases h
  | _, .str _ :: _, _, .cons .., h => by cases h
  | _, .int _ :: _, _, .cons .., h => by cases h
  | _, .bl _ :: _, _, .cons .., h => by cases h
  | _, .lst _ :: _, _, .cons .., h => by cases h
  | _, .scr _ :: _, _, .cons .., h => by cases h
  | _, .hnd _ :: _, _, .cons .., h => by cases h
theorem denO_sortLen {K : PySem.W.Frag} {σ : L2.St} {H : Hp} {Q : VK} {ca : M PV} (h : denO K (bnd ca fun a => lft (sortLenP a)) σ H Q) : den K ca σ H (fun x H1 => rSortLen K x H1 Q) := by
  obtain ⟨C, W, s, at', p⟩ := h
  refine ⟨C, W, s, at', (Pst.bnd p).imp fun a s1 W1 H1 l1 at1 p1 v rv => ?_⟩
  obtain ⟨d, e, q⟩ := p1.lft'
  have q0 := q W1 H1 (Vw.Le.refl W1) at1
  unfold sortLenP at e
  split at e
  · obtain ⟨ns, e1, rfl⟩ := Option.map_eq_some_iff.mp e
    cases rv with
    | lst hx rx =>
      have hp := tupLens_ok at1.ok.sub rx e1
      exact ⟨_, _, ns, rfl, SqL.of (at1.ok.sub _ _ hx), hp, fun p hp' => q0 p _ hp' (reps_snd (sortK_rel (zip_reps rx (Paired.length hp))))⟩
  · cases e
end Dn
/-! Den7: the rules in short, one for each form of Python. -/
namespace Dn
open PySem L2 PySem.Spec PyProof.Rows

theorem bo_len : bootBuiltins "len" = some (.builtin "len") := by decide +kernel
theorem bo_abs : bootBuiltins "abs" = some (.builtin "abs") := by decide +kernel
theorem bo_any : bootBuiltins "any" = some (.builtin "any") := by decide +kernel
theorem bo_all : bootBuiltins "all" = some (.builtin "all") := by decide +kernel
theorem bo_repr : bootBuiltins "repr" = some (.builtin "repr") := by decide +kernel
theorem bo_sorted : bootBuiltins "sorted" = some (.builtin "sorted") := by decide +kernel
theorem bo_int : bootBuiltins "int" = some (.type "int") := by decide +kernel
theorem bo_list : bootBuiltins "list" = some (.type "list") := by decide +kernel
theorem bo_tuple : bootBuiltins "tuple" = some (.type "tuple") := by decide +kernel

section
variable {X : Cx} {a b c e o : Expr} {es : List Expr} {ca cb cd ce : M PV} {ta tb tc : M Bool} {pos p px : Pos} {i j k : Nat}
/-! ### names, constants -/
theorem xv (i : Nat) {x : Str} {pos : Pos} (hN : X.N[i]? = some x := by rfl) (hv : Vis X.env.scope x := by first | exact Or.inl rfl | exact Or.inr (Or.inl rfl) | exact Or.inr (Or.inr rfl)) (hd : (x == ("__debug__" : Str)) = false := by decide)
    (hcd : (x == ("__classdict__" : Str)) = false := by decide) : PE X (.Name x pos) (den X.K (var i)) := pe_imp (pe_var hN hv hd hcd) fun _ _ _ => den_var
theorem xint {n : Int} {j pos} : PE X (.Constant (.int n) j pos) (den X.K (ret (.int n))) := pe_imp pe_int fun _ _ _ h => den_ret h fun _ => .int n
theorem xstr {x : Str} {j pos} : PE X (.Constant (.str x) j pos) (den X.K (ret (.str x))) := pe_imp pe_str fun _ _ _ h => den_ret h fun _ => .str x
theorem xbl {b : Bool} {j pos} : PE X (.Constant (.bool b) j pos) (den X.K (ret (.bl b))) := pe_imp pe_bl fun _ _ _ h => den_ret h fun _ => .bl b
theorem xnon {j pos} : PE X (.Constant .none j pos) (den X.K (ret .non)) := pe_imp pe_non fun _ _ _ h => den_ret h fun _ => .non
/-! ### operators -/
abbrev opAdd (a b : PV) : M PV := lft (addP a b)
abbrev opSub (a b : PV) : M PV := lft (subP a b)
abbrev opMul (a b : PV) : M PV := lft (mulP a b)
abbrev opDiv (a b : PV) : M PV := lft (fdivP a b)
abbrev opMod (a b : PV) : M PV := lft (modP a b)
abbrev opPow (a b : PV) : M PV := lft (powP a b)
theorem xadd (ha : PE X a (den X.K ca)) (hb : PE X b (den X.K cb)) : PE X (.BinOp a .Add b pos) (den X.K (bin ca cb opAdd)) := pe_imp (pe_op op_addU ha hb) fun _ _ _ => den_bin bin_add
theorem xsub (ha : PE X a (den X.K ca)) (hb : PE X b (den X.K cb)) : PE X (.BinOp a .Sub b pos) (den X.K (bin ca cb opSub)) := pe_imp (pe_op op_sub ha hb) fun _ _ _ => den_bin bin_sub
theorem xmul (ha : PE X a (den X.K ca)) (hb : PE X b (den X.K cb)) : PE X (.BinOp a .Mult b pos) (den X.K (bin ca cb opMul)) := pe_imp (pe_op (op_or2 op_mulW op_rep) ha hb) fun _ _ _ => den_bin bin_mul
theorem xfdiv (ha : PE X a (den X.K ca)) (hb : PE X b (den X.K cb)) : PE X (.BinOp a .FloorDiv b pos) (den X.K (bin ca cb opDiv)) := pe_imp (pe_op op_fdivW ha hb) fun _ _ _ => den_bin bin_fdiv
theorem xmod (ha : PE X a (den X.K ca)) (hb : PE X b (den X.K cb)) : PE X (.BinOp a .Mod b pos) (den X.K (bin ca cb opMod)) := pe_imp (pe_op op_mod ha hb) fun _ _ _ => den_bin bin_mod
theorem xpow (ha : PE X a (den X.K ca)) (hb : PE X b (den X.K cb)) : PE X (.BinOp a .Pow b pos) (den X.K (bin ca cb opPow)) := pe_imp (pe_op op_pow ha hb) fun _ _ _ => den_bin bin_pow
/-! ### comparisons: by the rule of the operator -/
structure CmpOk (X : Cx) (op : CmpOp) (f : PV → PV → M PV) : Prop where
  ok : ∃ r, OpR X (compareOp op) r ∧ Bin r X.K f
abbrev opLt (a b : PV) : M PV := lft (ordP (fun i j => decide (i < j)) a b)
abbrev opLe (a b : PV) : M PV := lft (ordP (fun i j => decide (i ≤ j)) a b)
abbrev opGt (a b : PV) : M PV := lft (ordP (fun i j => decide (j < i)) a b)
abbrev opGe (a b : PV) : M PV := lft (ordP (fun i j => decide (j ≤ i)) a b)
abbrev opEq (a b : PV) : M PV := lft (eqP false a b)
abbrev opNe (a b : PV) : M PV := lft (eqP true a b)
abbrev opIn (a b : PV) : M PV := lft (inP false a b)
abbrev opNotIn (a b : PV) : M PV := lft (inP true a b)
theorem k_lt : CmpOk X .Lt opLt := ⟨_, op_lt, bin_ord⟩
theorem k_le : CmpOk X .LtE opLe := ⟨_, op_le, bin_ord⟩
theorem k_gt : CmpOk X .Gt opGt := ⟨_, op_gt, bin_ord⟩
theorem k_ge : CmpOk X .GtE opGe := ⟨_, op_ge, bin_ord⟩
theorem k_eq (hu : X.A.units + 128 < cLine) : CmpOk X .Eq opEq := ⟨_, op_or2 op_eq (op_eqD (by omega)), bin_eq⟩
theorem k_ne (hu : X.A.units + 128 < cLine) : CmpOk X .NotEq opNe := ⟨_, op_or2 op_ne (op_neD (by omega)), bin_ne⟩
theorem k_in (hu : X.A.units + 128 < cLine) : CmpOk X .In opIn := ⟨_, op_or2 op_in_seq (op_inD (by omega)), bin_in⟩
theorem k_notin (hu : X.A.units + 128 < cLine) : CmpOk X .NotIn opNotIn := ⟨_, op_or2 op_notIn_seq (op_notInD (by omega)), bin_notin⟩
theorem xcmp {op : CmpOp} {f : PV → PV → M PV} (h : CmpOk X op f) (ha : PE X a (den X.K ca)) (hb : PE X b (den X.K cb)) (hm : behindInMarks op b = false := by first | exact nomark _ | rfl) : PE X (.Compare a [op] [b] pos) (den X.K (bin ca cb f)) := by
  obtain ⟨r, h1, h2⟩ := h.ok
  exact pe_imp (pe_cmpR h1 ha hb hm) fun _ _ _ => den_bin h2
theorem xcmpL {op : CmpOp} {f : PV → PV → M PV} (h : CmpOk X op f) (i : Nat) {x : Str} (hb : PE X b (den X.K cb)) (hm : behindInMarks op b = false := by first | exact nomark _ | rfl) (hN : X.N[i]? = some x := by rfl)
    (hv : Vis X.env.scope x := by first | exact Or.inl rfl | exact Or.inr (Or.inl rfl) | exact Or.inr (Or.inr rfl)) (hd : (x == ("__debug__" : Str)) = false := by decide) (hcd : (x == ("__classdict__" : Str)) = false := by decide) :
    PE X (.Compare (.Name x px) [op] [b] pos) (den X.K (binL i cb f)) := by
  obtain ⟨r, h1, h2⟩ := h.ok
  exact pe_imp (pe_cmpR h1 (pe_var hN hv hd hcd) hb hm) fun _ _ _ => den_binL h2
theorem xcmpR {op : CmpOp} {f : PV → PV → M PV} (h : CmpOk X op f) (i : Nat) {x : Str} (ha : PE X a (den X.K ca)) (hm : behindInMarks op (.Name x px) = false := by first | exact nomark _ | rfl) (hN : X.N[i]? = some x := by rfl)
    (hv : Vis X.env.scope x := by first | exact Or.inl rfl | exact Or.inr (Or.inl rfl) | exact Or.inr (Or.inr rfl)) (hd : (x == ("__debug__" : Str)) = false := by decide) (hcd : (x == ("__classdict__" : Str)) = false := by decide) :
    PE X (.Compare a [op] [.Name x px] pos) (den X.K (binR ca i f)) := by
  obtain ⟨r, h1, h2⟩ := h.ok
  exact pe_imp (pe_cmpR h1 ha (pe_var hN hv hd hcd) hm) fun _ _ _ => den_binR h2
theorem xisN (ha : PE X a (den X.K ca)) {j p2} : PE X (.Compare a [.Is] [.Constant .none j p2] pos) (den X.K (isN false ca)) := pe_imp (pe_cmp (pc_isN ha) rfl) fun _ _ _ => den_isN
theorem xnotN (ha : PE X a (den X.K ca)) {j p2} : PE X (.Compare a [.IsNot] [.Constant .none j p2] pos) (den X.K (isN true ca)) := pe_imp (pe_cmp (pc_notN ha) rfl) fun _ _ _ => den_notN
/-! ### tests -/
theorem tcmp {op : CmpOp} {f : PV → PV → M PV} (h : CmpOk X op f) (ha : PE X a (den X.K ca)) (hb : PE X b (den X.K cb)) (hm : behindInMarks op b = false := by first | exact nomark _ | rfl) : PT X (.Compare a [op] [b] pos) (denT X.K (asB (bin ca cb f))) := by
  obtain ⟨r, h1, h2⟩ := h.ok
  exact pt_imp (pt_cmpR h1 ha hb hm) fun _ _ _ q => den_bin h2 (den_asB q)
theorem tcmpL {op : CmpOp} {f : PV → PV → M PV} (h : CmpOk X op f) (i : Nat) {x : Str} (hb : PE X b (den X.K cb)) (hm : behindInMarks op b = false := by first | exact nomark _ | rfl) (hN : X.N[i]? = some x := by rfl)
    (hv : Vis X.env.scope x := by first | exact Or.inl rfl | exact Or.inr (Or.inl rfl) | exact Or.inr (Or.inr rfl)) (hd : (x == ("__debug__" : Str)) = false := by decide) (hcd : (x == ("__classdict__" : Str)) = false := by decide) :
    PT X (.Compare (.Name x px) [op] [b] pos) (denT X.K (asB (binL i cb f))) := by
  obtain ⟨r, h1, h2⟩ := h.ok
  exact pt_imp (pt_cmpR h1 (pe_var hN hv hd hcd) hb hm) fun _ _ _ q => den_binL h2 (den_asB q)
theorem tcmpR {op : CmpOp} {f : PV → PV → M PV} (h : CmpOk X op f) (i : Nat) {x : Str} (ha : PE X a (den X.K ca)) (hm : behindInMarks op (.Name x px) = false := by first | exact nomark _ | rfl) (hN : X.N[i]? = some x := by rfl)
    (hv : Vis X.env.scope x := by first | exact Or.inl rfl | exact Or.inr (Or.inl rfl) | exact Or.inr (Or.inr rfl)) (hd : (x == ("__debug__" : Str)) = false := by decide) (hcd : (x == ("__classdict__" : Str)) = false := by decide) :
    PT X (.Compare a [op] [.Name x px] pos) (denT X.K (asB (binR ca i f))) := by
  obtain ⟨r, h1, h2⟩ := h.ok
  exact pt_imp (pt_cmpR h1 ha (pe_var hN hv hd hcd) hm) fun _ _ _ q => den_binR h2 (den_asB q)
theorem tisN (ha : PE X a (den X.K ca)) {j p2} : PT X (.Compare a [.Is] [.Constant .none j p2] pos) (denT X.K (asB (isN false ca))) := pt_imp (pt_cmp (pc_isN ha) rfl) fun _ _ _ q => den_isN (den_asB q)
theorem tnotN (ha : PE X a (den X.K ca)) {j p2} : PT X (.Compare a [.IsNot] [.Constant .none j p2] pos) (denT X.K (asB (isN true ca))) := pt_imp (pt_cmp (pc_notN ha) rfl) fun _ _ _ q => den_notN (den_asB q)
theorem tval (ha : PE X a (den X.K ca)) (he : ∀ whole, isTrue a X.env whole = (do let v ← whole; standAt a.pos; holding [v] (truthy v)) := by intro _; rfl) : PT X a (denT X.K (asB ca)) := pt_imp (pt_val ha he) fun _ _ _ q => den_asB q
theorem wand (ha : PT X a (denT X.K ta)) (hb : PW X (.BoolOp .And (b :: es) pos) (denT X.K tb)) : PW X (.BoolOp .And (a :: b :: es) pos) (denT X.K (andT ta tb)) := pw_imp (pw_and ha hb) fun _ _ _ => den_and
theorem wor (ha : PT X a (denT X.K ta)) (hb : PW X (.BoolOp .Or (b :: es) pos) (denT X.K tb)) : PW X (.BoolOp .Or (a :: b :: es) pos) (denT X.K (orT ta tb)) := pw_imp (pw_or ha hb) fun _ _ _ => den_or
theorem tnot (ha : PT X a (denT X.K ta)) : PT X (.UnaryOp .Not a pos) (denT X.K (notT ta)) := pt_imp (pt_not ha) fun _ _ _ => den_not
theorem xand (ha : PE X a (den X.K ca)) (hb : PE X (.BoolOp .And (b :: es) pos) (den X.K cb)) : PE X (.BoolOp .And (a :: b :: es) pos) (den X.K (andV ca cb)) := pe_imp (pe_and ha hb) fun _ _ _ => den_andV
theorem xor_ (ha : PE X a (den X.K ca)) (hb : PE X (.BoolOp .Or (b :: es) pos) (den X.K cb)) : PE X (.BoolOp .Or (a :: b :: es) pos) (den X.K (orV ca cb)) := pe_imp (pe_or ha hb) fun _ _ _ => den_orV
theorem xnot (ha : PE X a (den X.K ca)) : PE X (.UnaryOp .Not a pos) (den X.K (notV ca)) := pe_imp (pe_not ha) fun _ _ _ => den_notV
theorem xif (hc : PT X c (denT X.K tc)) (ha : PE X a (den X.K ca)) (hb : PE X b (den X.K cb)) : PE X (.IfExp c a b pos) (den X.K (iteT tc ca cb)) := pe_imp (pe_ifExp hc ha hb) fun _ _ _ => den_ite
/-! ### arguments, displays -/
theorem anil : PA X [] (denA X.K argN) := pa_imp pa_nil fun _ _ _ => den_argN
theorem acons {r : M (List PV)} (ha : PE X e (den X.K ce)) (hr : PA X es (denA X.K r)) (hs : starEach (e :: es) X.env = (false, eval e X.env) :: starEach es X.env := by rfl) : PA X (e :: es) (denA X.K (argC ce r)) := pa_imp (pa_cons ha hr hs) fun _ _ _ => den_argC
theorem xtup {cs : M (List PV)} {n} (h : PA X es (denA X.K cs)) : PE X (.Tuple es n pos) (den X.K (tupM cs)) := pe_imp (pe_tup h) fun _ _ _ => den_tup
theorem olst {cs : M (List PV)} (h : PA X es (denA X.K cs)) : PE X (.List es pos) (denO X.K (fits cs)) := pe_imp (pe_lst h) fun _ _ _ => denO_lst
/-- a new list, frozen at once -/
theorem xo {cs : M (List PV)} (h : PE X e (denO X.K cs)) : PE X e (den X.K (lstM cs)) := pe_imp h fun _ _ _ => denO_den
/-! ### subscripts, slices -/
abbrev opIx (a b : PV) : M PV := lft (ixP a b)
theorem xix (ha : PE X a (den X.K ca)) (hb : PE X b (den X.K cb)) (hs : PlainIx b := by intro _ _; rfl) : PE X (.Subscript a b pos) (den X.K (bin ca cb opIx)) := pe_imp (pe_ix ix_seq ha hb hs) fun _ _ _ => den_bin bin_ix
theorem xixL (i : Nat) {x : Str} (hb : PE X b (den X.K cb)) (hs : PlainIx b := by intro _ _; rfl) (hN : X.N[i]? = some x := by rfl)
    (hv : Vis X.env.scope x := by first | exact Or.inl rfl | exact Or.inr (Or.inl rfl) | exact Or.inr (Or.inr rfl)) (hd : (x == ("__debug__" : Str)) = false := by decide) (hcd : (x == ("__classdict__" : Str)) = false := by decide) :
    PE X (.Subscript (.Name x px) b pos) (den X.K (binL i cb opIx)) := pe_imp (pe_ix ix_seq (pe_var hN hv hd hcd) hb hs) fun _ _ _ => den_binL bin_ix
theorem qN : PO X none (denP X.K parN) := ⟨fun pins s σ H Q I h => po_none.run pins s σ H Q I (den_parN h)⟩
theorem qS (h : PE X e (den X.K ce)) : PO X (some e) (denP X.K (parS ce)) := ⟨fun pins s σ H Q I q => (po_some h).run pins s σ H Q I (den_parS q)⟩
theorem xsl {lo hi : Option Expr} {cl ch : M (Option Int)} {p2} (h : PE X e (den X.K ce)) (hl : PO X lo (denP X.K cl)) (hh : PO X hi (denP X.K ch)) : PE X (.Subscript e (.Slice lo hi none p2) pos) (den X.K (slM ce cl ch)) := pe_imp (pe_slice sl_u h hl hh) fun _ _ _ => den_sl
theorem xrev {k p1 p2 p3} (h : PE X e (den X.K ce)) : PE X (.Subscript e (.Slice none none (some (.UnaryOp .USub (.Constant (.int 1) k p1) p2)) p3) pos) (den X.K (revM ce)) := pe_imp (pe_revL h) fun _ _ _ => den_rev
theorem xhget (hu : X.A.units + 128 < cLine) (ha : PE X a (den X.K ca)) (hb : PE X b (den X.K cb)) (hs : NoSl b := by intro _ _; rfl) : PE X (.Subscript a b pos) (den X.K (bin ca cb hgetP)) := pe_imp (pe_dget (by omega) ha hb hs) fun _ _ _ => den_hget
/-! ### built-ins -/
theorem xb {id : String} {x : Str} {r : List V → Hp → VK → Prop} {f : PV → M PV} (hc : CallR X (.builtin id) r) (hf : Fn1 r X.K f) (hv : bootBuiltins x = some (.builtin id)) (hm : X.mg x = none) (ha : PE X e (den X.K ce)) (hg : Gl X x := by rfl) (hn : x ≠ "__name__" := by decide) (hdb : (x == ("__debug__" : Str)) = false := by decide)
    (he : starEach [e] X.env = (false, eval e X.env) :: starEach [] X.env := by rfl) (hpl : (backTo pos (starEach [] X.env)).any (·.1) = false := by rfl) : PE X (.Call (.Name x p) [e] [] pos) (den X.K (bnd ce f)) :=
  pe_imp (pe_callB hc hg hm hv (pa_cons ha pa_nil he) hn hdb he hpl) fun _ _ _ => den_fn1 hf
theorem xbL (i : Nat) {y : Str} {id : String} {x : Str} {r : List V → Hp → VK → Prop} {f : PV → M PV} (hc : CallR X (.builtin id) r) (hf : Fn1 r X.K f) (hv : bootBuiltins x = some (.builtin id)) (hm : X.mg x = none) (hg : Gl X x := by rfl) (hn : x ≠ "__name__" := by decide) (hdb : (x == ("__debug__" : Str)) = false := by decide)
    (hN : X.N[i]? = some y := by rfl) (hvi : Vis X.env.scope y := by first | exact Or.inl rfl | exact Or.inr (Or.inl rfl) | exact Or.inr (Or.inr rfl)) (hd : (y == ("__debug__" : Str)) = false := by decide) (hcd : (y == ("__classdict__" : Str)) = false := by decide)
    (he : starEach [.Name y px] X.env = (false, eval (.Name y px) X.env) :: starEach [] X.env := by rfl) (hpl : (backTo pos (starEach [] X.env)).any (·.1) = false := by rfl) : PE X (.Call (.Name x p) [.Name y px] [] pos) (den X.K (bnd (brw i) f)) :=
  pe_imp (pe_callB hc hg hm hv (pa_cons (pe_var hN hvi hd hcd) pa_nil he) hn hdb he hpl) fun _ _ _ => den_fn1B hf
theorem xt {T : String} {x : Str} {r : List V → Hp → VK → Prop} {f : PV → M PV} (hc : CallR X (.type T) r) (hf : Fn1 r X.K f) (hv : bootBuiltins x = some (.type T)) (hm : X.mg x = none) (ha : PE X e (den X.K ce)) (hg : Gl X x := by rfl) (hn : x ≠ "__name__" := by decide) (hdb : (x == ("__debug__" : Str)) = false := by decide)
    (he : starEach [e] X.env = (false, eval e X.env) :: starEach [] X.env := by rfl) (hpl : (backTo pos (starEach [] X.env)).any (·.1) = false := by rfl) : PE X (.Call (.Name x p) [e] [] pos) (den X.K (bnd ce f)) :=
  pe_imp (pe_callTy hc hg hm hv (pa_cons ha pa_nil he) hn hdb he hpl) fun _ _ _ => den_fn1 hf
theorem ob {id : String} {x : Str} {r : List V → Hp → VK → Prop} {f : PV → M (List PV)} (hc : CallR X (.builtin id) r) (hf : Fn1O r X.K f) (hv : bootBuiltins x = some (.builtin id)) (hm : X.mg x = none) (ha : PE X e (den X.K ce)) (hg : Gl X x := by rfl) (hn : x ≠ "__name__" := by decide) (hdb : (x == ("__debug__" : Str)) = false := by decide)
    (he : starEach [e] X.env = (false, eval e X.env) :: starEach [] X.env := by rfl) (hpl : (backTo pos (starEach [] X.env)).any (·.1) = false := by rfl) : PE X (.Call (.Name x p) [e] [] pos) (denO X.K (bnd ce f)) :=
  pe_imp (pe_callB hc hg hm hv (pa_cons ha pa_nil he) hn hdb he hpl) fun _ _ _ => denO_fn1 hf
theorem ot {T : String} {x : Str} {r : List V → Hp → VK → Prop} {f : PV → M (List PV)} (hc : CallR X (.type T) r) (hf : Fn1O r X.K f) (hv : bootBuiltins x = some (.type T)) (hm : X.mg x = none) (ha : PE X e (den X.K ce)) (hg : Gl X x := by rfl) (hn : x ≠ "__name__" := by decide) (hdb : (x == ("__debug__" : Str)) = false := by decide)
    (he : starEach [e] X.env = (false, eval e X.env) :: starEach [] X.env := by rfl) (hpl : (backTo pos (starEach [] X.env)).any (·.1) = false := by rfl) : PE X (.Call (.Name x p) [e] [] pos) (denO X.K (bnd ce f)) :=
  pe_imp (pe_callTy hc hg hm hv (pa_cons ha pa_nil he) hn hdb he hpl) fun _ _ _ => denO_fn1 hf
abbrev fLen (a : PV) : M PV := lft (lenP a)
abbrev fAbs (a : PV) : M PV := lft (absP a)
abbrev fInt (a : PV) : M PV := lft (intP a)
abbrev fAny (a : PV) : M PV := lft (anyP a)
abbrev fAll (a : PV) : M PV := lft (allP a)
abbrev fRepr (a : PV) : M PV := lft (reprP a)
abbrev fTuple (a : PV) : M PV := lft (tupleP a)
abbrev fList (a : PV) : M (List PV) := lft (listP a)
abbrev fSort (a : PV) : M (List PV) := lft (sortP a)
abbrev fSortLen (a : PV) : M (List PV) := lft (sortLenP a)
theorem xlen (hm : X.mg "len" = none) (ha : PE X e (den X.K ce)) (hg : Gl X "len" := by rfl) (he : starEach [e] X.env = (false, eval e X.env) :: starEach [] X.env := by rfl) : PE X (.Call (.Name "len" p) [e] [] pos) (den X.K (bnd ce fLen)) := xb call_len fn_len bo_len hm ha hg (he := he)
theorem xlenL (i : Nat) {y : Str} (hm : X.mg "len" = none) (hg : Gl X "len" := by rfl) (hN : X.N[i]? = some y := by rfl) (hvi : Vis X.env.scope y := by first | exact Or.inl rfl | exact Or.inr (Or.inl rfl) | exact Or.inr (Or.inr rfl)) (hd : (y == ("__debug__" : Str)) = false := by decide)
    (hcd : (y == ("__classdict__" : Str)) = false := by decide) (he : starEach [.Name y px] X.env = (false, eval (.Name y px) X.env) :: starEach [] X.env := by rfl) : PE X (.Call (.Name "len" p) [.Name y px] [] pos) (den X.K (bnd (brw i) fLen)) :=
  xbL i call_len fn_len bo_len hm hg (hN := hN) (hvi := hvi) (hd := hd) (hcd := hcd) (he := he)
theorem xabs (hm : X.mg "abs" = none) (ha : PE X e (den X.K ce)) (hg : Gl X "abs" := by rfl) (he : starEach [e] X.env = (false, eval e X.env) :: starEach [] X.env := by rfl) : PE X (.Call (.Name "abs" p) [e] [] pos) (den X.K (bnd ce fAbs)) := xb call_abs fn_abs bo_abs hm ha hg (he := he)
theorem xany (hc : X.calm = true) (hm : X.mg "any" = none) (ha : PE X e (den X.K ce)) (hg : Gl X "any" := by rfl) (he : starEach [e] X.env = (false, eval e X.env) :: starEach [] X.env := by rfl) : PE X (.Call (.Name "any" p) [e] [] pos) (den X.K (bnd ce fAny)) := xb (cr_any hc) fn_any bo_any hm ha hg (he := he)
theorem xall (hc : X.calm = true) (hm : X.mg "all" = none) (ha : PE X e (den X.K ce)) (hg : Gl X "all" := by rfl) (he : starEach [e] X.env = (false, eval e X.env) :: starEach [] X.env := by rfl) : PE X (.Call (.Name "all" p) [e] [] pos) (den X.K (bnd ce fAll)) := xb (cr_all hc) fn_all bo_all hm ha hg (he := he)
theorem xrepr (hgd : X.A.guards = some []) (hu : X.A.units + 128 < cLine) (hm : X.mg "repr" = none) (ha : PE X e (den X.K ce)) (hg : Gl X "repr" := by rfl) (he : starEach [e] X.env = (false, eval e X.env) :: starEach [] X.env := by rfl) : PE X (.Call (.Name "repr" p) [e] [] pos) (den X.K (bnd ce fRepr)) := xb (call_repr hgd hu) fn_repr bo_repr hm ha hg (he := he)
theorem xtoint (hm : X.mg "int" = none) (ha : PE X e (den X.K ce)) (hg : Gl X "int" := by rfl) (he : starEach [e] X.env = (false, eval e X.env) :: starEach [] X.env := by rfl) : PE X (.Call (.Name "int" p) [e] [] pos) (den X.K (bnd ce fInt)) := xt call_int1 fn_int bo_int hm ha hg (he := he)
theorem xtuple (hm : X.mg "tuple" = none) (ha : PE X e (den X.K ce)) (hg : Gl X "tuple" := by rfl) (he : starEach [e] X.env = (false, eval e X.env) :: starEach [] X.env := by rfl) : PE X (.Call (.Name "tuple" p) [e] [] pos) (den X.K (bnd ce fTuple)) := xt call_tuple_of fn_tuple bo_tuple hm ha hg (he := he)
theorem olist (hm : X.mg "list" = none) (ha : PE X e (den X.K ce)) (hg : Gl X "list" := by rfl) (he : starEach [e] X.env = (false, eval e X.env) :: starEach [] X.env := by rfl) : PE X (.Call (.Name "list" p) [e] [] pos) (denO X.K (bnd ce fList)) := ot call_list_of fn_list bo_list hm ha hg (he := he)
theorem osort (hm : X.mg "sorted" = none) (ha : PE X e (den X.K ce)) (hg : Gl X "sorted" := by rfl) (he : starEach [e] X.env = (false, eval e X.env) :: starEach [] X.env := by rfl) : PE X (.Call (.Name "sorted" p) [e] [] pos) (denO X.K (bnd ce fSort)) := ob cr_sortU fn_sort bo_sorted hm ha hg (he := he)
theorem osortLen {p2 kpos : Pos} (hm : X.mg "sorted" = none) (hm2 : X.mg "len" = none) (ha : PE X e (den X.K ce)) (hg : Gl X "sorted" := by rfl) (hg2 : Gl X "len" := by rfl) (hpl : (backTo pos (starEach [e] X.env)) = [(false, eval e X.env)] := by rfl)
    (hk : (backToKw pos (keywordEach [⟨some "key", .Name "len" p2, kpos⟩] X.env)) = [(some (Str.ofString "key"), do let v ← eval (.Name "len" p2) X.env; standAt pos; pure v)] := by rfl) :
    PE X (.Call (.Name "sorted" p) [e] [⟨some "key", .Name "len" p2, kpos⟩] pos) (denO X.K (bnd ce fSortLen)) := pe_imp (pe_sortLen ha hg hm hg2 hm2 hpl hk) fun _ _ _ => denO_sortLen
/-! ### methods -/
theorem xjoin {apos : Pos} (ha : PE X o (den X.K ca)) (hb : PE X e (den X.K cb)) (hbase : attributeBase o "join" X.env (eval o X.env) = eval o X.env := by rfl) (hline : (apos.endLine == pos.line) = true := by rfl)
    (hs : starEach [e] X.env = [(false, eval e X.env)] := by rfl) :
    PE X (.Call (.Attribute o "join" apos) [e] [] pos) (den X.K (joinM ca cb)) := pe_imp (pe_join ha hb hs hbase hline) fun _ _ _ => den_join
end
end Dn
/-! Den8: statements, comprehensions, calls, in short. -/
namespace Dn
open PySem L2 PySem.Spec PyProof.Rows
section
variable {X : Cx} {a b c e o : Expr} {es : List Expr} {ca cb cd ce : M PV} {ta tb tc : M Bool} {fa fb fc : M Fl} {pos p px : Pos} {i j k : Nat} {st : Stmt} {rest sa sb : List Stmt}
/-! ### blocks -/
theorem bnil : PSs X [] (denS X.K skipM) := pss_imp pss_nil fun _ _ _ => den_skip
theorem bone (h : PS X st (denS X.K fa)) : PSs X [st] (denS X.K fa) := pss_one h
theorem bcons (h : PS X st (denS X.K fa)) (r : PSs X rest (denS X.K fb)) : PSs X (st :: rest) (denS X.K (seqM fa fb)) := pss_imp (pss_cons h r) fun _ _ _ => den_seq
theorem sret (h : PE X e (den X.K ce)) : PS X (.Return (some e) pos) (denS X.K (retM ce)) := ps_imp (ps_ret h) fun _ _ _ => den_return
theorem sexpr (h : PE X e (den X.K ce)) (hs : swapsWith e none pos.line X.env = pure false := by rfl) : PS X (.Expr e pos) (denS X.K (dropM ce)) := ps_imp (ps_expr h hs) fun _ _ _ => den_drop
theorem sif (hc : PT X c (denT X.K tc)) (ha : PSs X sa (denS X.K fa)) (hb : PSs X sb (denS X.K fb)) : PS X (.If c sa sb pos) (denS X.K (ifM tc fa fb)) := ps_imp (ps_if hc ha hb) fun _ _ _ => den_if
theorem sbreak : PS X (.Break pos) (denS X.K (ret .bk)) := ps_imp ps_break fun _ _ _ => den_break
theorem scont : PS X (.Continue pos) (denS X.K (ret .ct)) := ps_imp ps_continue fun _ _ _ => den_continue
theorem spass : PS X (.Pass pos) (denS X.K skipM) := ps_imp ps_pass fun _ _ _ => den_skip
/-! ### stores -/
theorem sset (i : Nat) {x : Str} (nd : X.N.Nodup) (he : PE X e (den X.K ce)) (hi : X.N[i]? = some x := by rfl) (hx : Loc X.env.scope x := by first | exact Or.inl rfl | exact Or.inr rfl) (hs : swapsWith e (some (.Name x px)) pos.line X.env = pure false := by rfl)
    (hf : X.fn x = true ∨ X.env.scope.names.lookup x = some .local := by first | exact .inl rfl | exact .inr rfl | assumption) : PS X (.Assign [.Name x px] e pos) (denS X.K (asgM i ce)) := ps_imp (ps_set nd hi hx he hs hf) fun _ _ _ => den_asg
theorem sown (i : Nat) {x : Str} {cs : M (List PV)} (nd : X.N.Nodup) (he : PE X e (denO X.K cs)) (hi : X.N[i]? = some x := by rfl) (hx : Loc X.env.scope x := by first | exact Or.inl rfl | exact Or.inr rfl) (hs : swapsWith e (some (.Name x px)) pos.line X.env = pure false := by rfl)
    (hf : X.fn x = true ∨ X.env.scope.names.lookup x = some .local := by first | exact .inl rfl | exact .inr rfl | assumption) : PS X (.Assign [.Name x px] e pos) (denS X.K (asgO i cs)) := ps_imp (ps_set nd hi hx he hs hf) fun _ _ _ => den_asgO
theorem shput {cd ck cv : M PV} {d key v : Expr} {p2 : Pos} (hu : X.A.units + 128 < cLine) (hd : PE X d (den X.K cd)) (hk : PE X key (den X.K ck)) (hv : PE X v (den X.K cv)) (hs : swapsWith v (some (.Subscript d key p2)) pos.line X.env = pure false := by rfl) :
    PS X (.Assign [.Subscript d key p2] v pos) (denS X.K (hputM cd ck cv)) := ps_imp (ps_dput (by omega) hd hk hv hs) fun _ _ _ => den_hput
theorem spar2 (i j : Nat) {x y : Str} {kt k2 : Nat} {py pt pt2 : Pos} (hc : X.calm = true) (nd : X.N.Nodup) (ha : PE X a (den X.K ca)) (hb : PE X b (den X.K cb)) (hi : X.N[i]? = some x := by rfl) (hj : X.N[j]? = some y := by rfl) (hij : i ≠ j := by decide)
    (hx : X.env.scope.names.lookup x = some .local := by rfl) (hy : X.env.scope.names.lookup y = some .local := by rfl) (hw : swappedStores [.Tuple [.Name x px, .Name y py] kt pt] (.Tuple [a, b] k2 pt2) X.env = pure (some [x, y]) := by rfl)
    (hs : swapsWithSole [.Tuple [.Name x px, .Name y py] kt pt] (.Tuple [a, b] k2 pt2) pos.line X.env = pure false := by rfl) (h1 : starEach [a, b] X.env = (false, eval a X.env) :: starEach [b] X.env := by rfl) (h2 : starEach [b] X.env = (false, eval b X.env) :: starEach [] X.env := by rfl) :
    PS X (.Assign [.Tuple [.Name x px, .Name y py] kt pt] (.Tuple [a, b] k2 pt2) pos) (denS X.K (par2 i j ca cb)) := ps_imp (ps_par hc nd hi hj hij hx hy (pa_cons ha (pa_cons hb pa_nil h2) h1) hw hs) fun _ _ _ => den_par2
theorem spar2VO (i j : Nat) {x y : Str} {kt k2 : Nat} {py pt pt2 : Pos} {cb : M (List PV)} (hc : X.calm = true) (nd : X.N.Nodup) (ha : PE X a (den X.K ca)) (hb : PE X b (denO X.K cb)) (hi : X.N[i]? = some x := by rfl) (hj : X.N[j]? = some y := by rfl) (hij : i ≠ j := by decide)
    (hx : X.env.scope.names.lookup x = some .local := by rfl) (hy : X.env.scope.names.lookup y = some .local := by rfl) (hw : swappedStores [.Tuple [.Name x px, .Name y py] kt pt] (.Tuple [a, b] k2 pt2) X.env = pure (some [x, y]) := by rfl)
    (hs : swapsWithSole [.Tuple [.Name x px, .Name y py] kt pt] (.Tuple [a, b] k2 pt2) pos.line X.env = pure false := by rfl) (h1 : starEach [a, b] X.env = (false, eval a X.env) :: starEach [b] X.env := by rfl) (h2 : starEach [b] X.env = (false, eval b X.env) :: starEach [] X.env := by rfl) :
    PS X (.Assign [.Tuple [.Name x px, .Name y py] kt pt] (.Tuple [a, b] k2 pt2) pos) (denS X.K (par2VO i j ca cb)) := ps_imp (ps_par hc nd hi hj hij hx hy (pa_cons ha (pa_cons hb pa_nil h2) h1) hw hs) fun _ _ _ => den_par2VO
theorem spar2OO (i j : Nat) {x y : Str} {kt k2 : Nat} {py pt pt2 : Pos} {ca cb : M (List PV)} (hc : X.calm = true) (nd : X.N.Nodup) (ha : PE X a (denO X.K ca)) (hb : PE X b (denO X.K cb)) (hi : X.N[i]? = some x := by rfl) (hj : X.N[j]? = some y := by rfl) (hij : i ≠ j := by decide)
    (hx : X.env.scope.names.lookup x = some .local := by rfl) (hy : X.env.scope.names.lookup y = some .local := by rfl) (hw : swappedStores [.Tuple [.Name x px, .Name y py] kt pt] (.Tuple [a, b] k2 pt2) X.env = pure (some [x, y]) := by rfl)
    (hs : swapsWithSole [.Tuple [.Name x px, .Name y py] kt pt] (.Tuple [a, b] k2 pt2) pos.line X.env = pure false := by rfl) (h1 : starEach [a, b] X.env = (false, eval a X.env) :: starEach [b] X.env := by rfl) (h2 : starEach [b] X.env = (false, eval b X.env) :: starEach [] X.env := by rfl) :
    PS X (.Assign [.Tuple [.Name x px, .Name y py] kt pt] (.Tuple [a, b] k2 pt2) pos) (denS X.K (par2OO i j ca cb)) := ps_imp (ps_par hc nd hi hj hij hx hy (pa_cons ha (pa_cons hb pa_nil h2) h1) hw hs) fun _ _ _ => den_par2OO
theorem spar3 (i j l : Nat) {x y z : Str} {kt k2 : Nat} {py pz pt pt2 : Pos} (hc : X.calm = true) (nd : X.N.Nodup) (ha : PE X a (den X.K ca)) (hb : PE X b (den X.K cb)) (hcc : PE X c (den X.K cd)) (hi : X.N[i]? = some x := by rfl) (hj : X.N[j]? = some y := by rfl) (hl : X.N[l]? = some z := by rfl)
    (hij : i ≠ j := by decide) (hil : i ≠ l := by decide) (hjl : j ≠ l := by decide) (hx : X.env.scope.names.lookup x = some .local := by rfl) (hy : X.env.scope.names.lookup y = some .local := by rfl) (hz : X.env.scope.names.lookup z = some .local := by rfl)
    (hw : swappedStores [.Tuple [.Name x px, .Name y py, .Name z pz] kt pt] (.Tuple [a, b, c] k2 pt2) X.env = pure (some [x, y, z]) := by rfl) (hs : swapsWithSole [.Tuple [.Name x px, .Name y py, .Name z pz] kt pt] (.Tuple [a, b, c] k2 pt2) pos.line X.env = pure false := by rfl)
    (h1 : starEach [a, b, c] X.env = (false, eval a X.env) :: starEach [b, c] X.env := by rfl) (h2 : starEach [b, c] X.env = (false, eval b X.env) :: starEach [c] X.env := by rfl) (h3 : starEach [c] X.env = (false, eval c X.env) :: starEach [] X.env := by rfl) :
    PS X (.Assign [.Tuple [.Name x px, .Name y py, .Name z pz] kt pt] (.Tuple [a, b, c] k2 pt2) pos) (denS X.K (par3 i j l ca cb cd)) := ps_imp (ps_par3 hc nd hi hj hl hij hil hjl hx hy hz (pa_cons ha (pa_cons hb (pa_cons hcc pa_nil h3) h2) h1) hw hs) fun _ _ _ => den_par3
/-! ### what is walked -/
theorem iu {tg : Expr} (h : PE X e (den X.K ce)) : PI X tg e (iU X.K (den X.K ce)) := pi_u h
theorem irng {tg : Expr} (hm : X.mg "range" = none) (h : PE X e (den X.K ce)) (hg : Gl X "range" := by rfl) (hs : starEach [e] X.env = [(false, eval e X.env)] := by rfl) : PI X tg (.Call (.Name "range" p) [e] [] pos) (iRng1 (tCons (den X.K ce) tNil)) := pi_range1 hg hm (pa_cons h pa_nil hs) hs
theorem sfor (i : Nat) {x : Str} {wi : TI} {cs : M (List PV)} {iter : Expr} (hc : X.calm = true) (nd : X.N.Nodup) (hp : PassesOwn (model X.prog X.w) X.A X.env X.xe) (hi : PI X (.Name x px) iter wi) (hw : SrcOk wi X.K cs) (hb : PSs X sa (denS X.K fa)) (hN : X.N[i]? = some x := by rfl)
    (hx : Loc X.env.scope x := by first | exact Or.inl rfl | exact Or.inr rfl) (hf : X.fn x = true ∨ X.env.scope.names.lookup x = some .local := by first | exact .inl rfl | exact .inr rfl | assumption) (hs : ∀ x, foldedSetIterable iter X.env x = pure x := by intro _; rfl) :
    PS X (.For (.Name x px) iter sa [] pos) (denS X.K (loopM cs i fa)) := ps_imp (ps_for hp hc hi (pg_name nd hN hx hf) hb hs) fun _ _ _ => den_for hw
theorem swhile (n : Nat) (hp : PassesOwn (model X.prog X.w) X.A X.env X.xe) (hc : PT X c (denT X.K tc)) (hb : PSs X sa (denS X.K fa)) : PS X (.While c sa [] pos) (denS X.K (whM tc fa n)) := ps_imp (ps_while hp hc hb) fun _ _ _ => den_while
/-! ### comprehensions -/
theorem tsN : PTs X [] (denT X.K (ret true)) := ⟨fun pins s σ H Q I h => pts_nil.run pins s σ H Q I (by
  obtain ⟨C, W, s, at', p⟩ := h
  exact p W H (Vw.Le.refl _) at')⟩
theorem tsC (h : PT X c (denT X.K tc)) : PTs X [c] (denT X.K tc) := pts_one h
theorem olc (i : Nat) {x : Str} {elt iter : Expr} {ifs : List Expr} {scope : Scope} {own : List (Str × Nat)} {wi : TI} {cs : M (List PV)} (hc : X.calm = true) (nd : X.N.Nodup) (hi : PI X (.Name x px) iter wi) (hw : SrcOk wi X.K cs) (ok : BlkOk X.N X.env.scope scope own) (hio : i ∈ own.map (·.2))
    (hg : ∀ (s : Shared) (H : Hp) (C : Addr) (cl : List (Str × Addr)) (fp : List Addr), PG (X.blk s H scope (compEnvC scope cl C X.env) fp) (.Name x px) (gName i)) (ht : ∀ (s : Shared) (H : Hp) (C : Addr) (cl : List (Str × Addr)) (fp : List Addr), PTs (X.blk s H scope (compEnvC scope cl C X.env) fp) ifs (denT X.K tc))
    (he : ∀ (s : Shared) (H : Hp) (C : Addr) (cl : List (Str × Addr)) (fp : List Addr), PE (X.blk s H scope (compEnvC scope cl C X.env) fp) elt (den X.K ce)) (hs : ∀ x, foldedSetIterable iter X.env x = pure x := by intro _; rfl) :
    PE X (.ListComp elt [⟨.Name x px, iter, ifs, 0⟩] scope pos) (denO X.K (lcM cs i (own.map (·.2)) tc ce)) := pe_imp (pe_lc hc nd hi ok hg ht he hs) fun _ _ _ => den_lc hw hio
/-- y = [..] on one line, y a local name -/
theorem slcO (l i : Nat) {y x : Str} {py : Pos} {elt iter : Expr} {ifs : List Expr} {scope : Scope} {own : List (Str × Nat)} {spos : Pos} {wi : TI} {cs : M (List PV)} (hc : X.calm = true) (nd : X.N.Nodup) (hi : PI X (.Name x px) iter wi) (hw : SrcOk wi X.K cs) (ok : BlkOk X.N X.env.scope scope own) (hio : i ∈ own.map (·.2))
    (hg : ∀ (s : Shared) (H : Hp) (C : Addr) (cl : List (Str × Addr)) (fp : List Addr), PG (X.blk s H scope (compEnvC scope cl C X.env) fp) (.Name x px) (gName i)) (ht : ∀ (s : Shared) (H : Hp) (C : Addr) (cl : List (Str × Addr)) (fp : List Addr), PTs (X.blk s H scope (compEnvC scope cl C X.env) fp) ifs (denT X.K tc))
    (he : ∀ (s : Shared) (H : Hp) (C : Addr) (cl : List (Str × Addr)) (fp : List Addr), PE (X.blk s H scope (compEnvC scope cl C X.env) fp) elt (den X.K ce)) (hy : X.N[l]? = some y := by rfl) (hyl : X.env.scope.names.lookup y = some .local := by rfl)
    (hsw : swapsWith (.ListComp elt [⟨.Name x px, iter, ifs, 0⟩] scope pos) (some (.Name y py)) spos.line X.env = pure true := by exact sw_true rfl rfl rfl (by kernel_rfl)) (hs : ∀ x, foldedSetIterable iter X.env x = pure x := by intro _; rfl) :
    PS X (.Assign [.Name y py] (.ListComp elt [⟨.Name x px, iter, ifs, 0⟩] scope pos) spos) (denS X.K (asgO l (lcM cs i (own.map (·.2)) tc ce))) :=
  ps_imp (ps_setLc hc nd hy hyl hsw hi ok hg ht he hs) fun D σ H h => by
    obtain ⟨C, W, s, at', p⟩ := h
    refine (den_lc hw hio ⟨C, W, s, at', ?_⟩ : tLc wi (gName i) _ _ _ σ H (fun x H1 => gName l x σ H1 D.nx))
    exact (PstS.bnd p).imp fun ds s1 W1 H1 l1 at1 p1 q vs hq rvs => p1 W1 _ _ (Vw.Le.refl _) (at1.setO hq rvs l)
/-- the same, the value at once frozen -/
theorem slcV (l i : Nat) {y x : Str} {py : Pos} {elt iter : Expr} {ifs : List Expr} {scope : Scope} {own : List (Str × Nat)} {spos : Pos} {wi : TI} {cs : M (List PV)} (hc : X.calm = true) (nd : X.N.Nodup) (hi : PI X (.Name x px) iter wi) (hw : SrcOk wi X.K cs) (ok : BlkOk X.N X.env.scope scope own) (hio : i ∈ own.map (·.2))
    (hg : ∀ (s : Shared) (H : Hp) (C : Addr) (cl : List (Str × Addr)) (fp : List Addr), PG (X.blk s H scope (compEnvC scope cl C X.env) fp) (.Name x px) (gName i)) (ht : ∀ (s : Shared) (H : Hp) (C : Addr) (cl : List (Str × Addr)) (fp : List Addr), PTs (X.blk s H scope (compEnvC scope cl C X.env) fp) ifs (denT X.K tc))
    (he : ∀ (s : Shared) (H : Hp) (C : Addr) (cl : List (Str × Addr)) (fp : List Addr), PE (X.blk s H scope (compEnvC scope cl C X.env) fp) elt (den X.K ce)) (hy : X.N[l]? = some y := by rfl) (hyl : X.env.scope.names.lookup y = some .local := by rfl)
    (hsw : swapsWith (.ListComp elt [⟨.Name x px, iter, ifs, 0⟩] scope pos) (some (.Name y py)) spos.line X.env = pure true := by exact sw_true rfl rfl rfl (by kernel_rfl)) (hs : ∀ x, foldedSetIterable iter X.env x = pure x := by intro _; rfl) :
    PS X (.Assign [.Name y py] (.ListComp elt [⟨.Name x px, iter, ifs, 0⟩] scope pos) spos) (denS X.K (asgM l (lstM (lcM cs i (own.map (·.2)) tc ce)))) :=
  ps_imp (ps_setLc hc nd hy hyl hsw hi ok hg ht he hs) fun D σ H h => by
    obtain ⟨C, W, s, at', p⟩ := h
    refine (den_lc hw hio ⟨C, W, s, at', ?_⟩ : tLc wi (gName i) _ _ _ σ H (fun x H1 => gName l x σ H1 D.nx))
    refine (Pst.bnd (f := fun ds => ret (PV.lst ds)) (PstS.bnd p)).imp fun ds s1 W1 H1 l1 at1 p1 q vs hq rvs => ?_
    obtain ⟨W2, l2, at2, r2⟩ := at1.layL hq rvs
    exact (p1 W2 _ l2 at2) W2 _ _ (Vw.Le.refl _) (at2.set r2 l)
/-! ### methods of lists that a name owns -/
theorem xapp (i : Nat) {x : Str} {apos : Pos} (he : PE X e (den X.K ce)) (hN : X.N[i]? = some x := by rfl) (hv : Vis X.env.scope x := by first | exact Or.inl rfl | exact Or.inr (Or.inl rfl) | exact Or.inr (Or.inr rfl)) (hd : (x == ("__debug__" : Str)) = false := by decide) (hcd : (x == ("__classdict__" : Str)) = false := by decide)
    (hbase : attributeBase (.Name x px) "append" X.env (eval (.Name x px) X.env) = eval (.Name x px) X.env := by rfl)
    (hfew : ((backTo pos (starEach [e] X.env)).all (fun x => !x.1) && (backToKw pos (keywordEach [] X.env)).all (fun x => x.1.isSome) && decide ([e].length + ([] : List Keyword).length + (if ([] : List Keyword).isEmpty then 0 else 1) < 30)) = true := by rfl)
    (hline : (apos.endLine == pos.line) = true := by rfl) (hs : starEach [e] X.env = (false, eval e X.env) :: starEach [] X.env := by rfl) (hplain : (backTo pos (starEach [] X.env)).any (·.1) = false := by rfl) :
    PE X (.Call (.Attribute (.Name x px) "append" apos) [e] [] pos) (den X.K (appM i ce)) :=
  pe_imp (pe_bm PySem.F.plainAttrs_list PySem.F.slot_list_append PySem.F.type_list_append mt_append (pe_var hN hv hd hcd) (pa_cons he pa_nil hs) hbase hfew hline hs hplain) fun _ _ _ => den_app
theorem xpop (i : Nat) {x : Str} {apos : Pos} (he : PE X e (den X.K ce)) (hN : X.N[i]? = some x := by rfl) (hv : Vis X.env.scope x := by first | exact Or.inl rfl | exact Or.inr (Or.inl rfl) | exact Or.inr (Or.inr rfl)) (hd : (x == ("__debug__" : Str)) = false := by decide) (hcd : (x == ("__classdict__" : Str)) = false := by decide)
    (hbase : attributeBase (.Name x px) "pop" X.env (eval (.Name x px) X.env) = eval (.Name x px) X.env := by rfl)
    (hfew : ((backTo pos (starEach [e] X.env)).all (fun x => !x.1) && (backToKw pos (keywordEach [] X.env)).all (fun x => x.1.isSome) && decide ([e].length + ([] : List Keyword).length + (if ([] : List Keyword).isEmpty then 0 else 1) < 30)) = true := by rfl)
    (hline : (apos.endLine == pos.line) = true := by rfl) (hs : starEach [e] X.env = (false, eval e X.env) :: starEach [] X.env := by rfl) (hplain : (backTo pos (starEach [] X.env)).any (·.1) = false := by rfl) :
    PE X (.Call (.Attribute (.Name x px) "pop" apos) [e] [] pos) (den X.K (popM i ce)) :=
  pe_imp (pe_bm PySem.F.plainAttrs_list PySem.F.slot_list_pop PySem.F.type_list_pop mt_popAt (pe_var hN hv hd hcd) (pa_cons he pa_nil hs) hbase hfew hline hs hplain) fun _ _ _ => den_pop
/-! ### dict displays: handles -/
theorem kN : PPs X pos [] [] (trsOf X.K []) := pps_nil
theorem kC {x : Str} {j : Nat} {p2 : Pos} {v : Expr} {ks : List (Option Expr)} {vs : List Expr} {cv : M PV} {r : List (Str × M PV)} (hv : PE X v (den X.K cv)) (hr : PPs X pos ks vs (trsOf X.K r)) : PPs X pos (some (.Constant (.str x) j p2) :: ks) (v :: vs) (trsOf X.K ((x, cv) :: r)) := pps_cons pe_str hv hr
/-! ### calls -/
theorem xcall {m : Fn} {np : Nat} {cs : M (List PV)} {x : Str} {f : Addr} {fd : FuncData} {ps : List Str} (n : Nat) (F : FnG X.prog X.w X.K X.mg X.base CX0 k f fd ps (spM X.K np m)) (hl : ∀ n ds st d st', m n ds st = .ok d st' → ds.length = np) (hgd : X.A.guards = some []) (hr : Room k X.A) (hm : X.mg x = some (.ref f)) (hk : PySem.W.keepIn X.K (.ref f) = true)
    (hb : Binds X.K fd ps []) (ha : PA X (e :: es) (denA X.K cs)) (hg : Gl X x := by rfl) (hdb : (x == ("__debug__" : Str)) = false := by decide) (he : starEach (e :: es) X.env = (false, eval e X.env) :: starEach es X.env := by rfl) (hpl : (backTo pos (starEach es X.env)).any (·.1) = false := by rfl) :
    PE X (.Call (.Name x p) (e :: es) [] pos) (den X.K (callM m n cs)) := pe_imp (pe_callG F hgd hr hg hm hk hb .nil pass0 ha hdb he hpl) fun _ _ _ => den_call (hl n)
end
theorem roomU {k : Nat} {A : Around} (h : Room k A) : A.units + 128 < cLine := by have := h.un; omega
/-- what a def of the text needs to be called -/
structure Df (P : Program) (w : World) (K : PySem.W.Frag) (mg : Str → Option Value) (base : Heap) (k : Nat) (x : Str) (ps : List Str) (m : Fn) : Prop where
  ex : ∃ (f : Addr) (fd : FuncData), FnG P w K mg base CX0 k f fd ps (spM K ps.length m) ∧ mg x = some (.ref f) ∧ PySem.W.keepIn K (.ref f) = true ∧ Binds K fd ps []
  len : ∀ n ds st d st', m n ds st = .ok d st' → ds.length = ps.length
theorem xdef {X : Cx} {k j : Nat} {x : Str} {ps : List Str} {m : Fn} {cs : M (List PV)} {e : Expr} {es : List Expr} {p pos : Pos} (n : Nat) (F : Df X.prog X.w X.K X.mg X.base j x ps m) (hgd : X.A.guards = some []) (hr : Room k X.A) (hjk : j ≤ k) (ha : PA X (e :: es) (denA X.K cs)) (hg : Gl X x := by rfl)
    (hdb : (x == ("__debug__" : Str)) = false := by decide) (he : starEach (e :: es) X.env = (false, eval e X.env) :: starEach es X.env := by rfl) (hpl : (backTo pos (starEach es X.env)).any (·.1) = false := by rfl) :
    PE X (.Call (.Name x p) (e :: es) [] pos) (den X.K (callM m n cs)) := by
  obtain ⟨f, fd, G, hm, hk, hb⟩ := F.ex
  exact xcall n G F.len hgd (hr.mono hjk) hm hk hb ha hg hdb he hpl
/-- the rule for a def, with its name -/
theorem df_of {P : Program} {w : World} {K : PySem.W.Frag} {mg : Str → Option Value} {base : Heap} {k : Nat} {f : Addr} {fd : FuncData} {x : Str} {st : Stmt} {N ps : List Str} {body : Nat → M Fl}
    (F : Fun K x x st f fd) (hm : mg x = some (.ref f)) (S : FnScope N ps (defScope st)) (hN : ps.length ≤ N.length) (hbi : Binds K fd ps [])
    (hbody : ∀ (cdv : Value) (A : Around) (outer : List PySem.Env) (s : Shared) (H : Hp) (E : XK) (n : Nat), (A.deeper (envOfC x (defScope st) s.heap.objs.size f cdv)).guards = some [] → Room k (A.deeper (envOfC x (defScope st) s.heap.objs.size f cdv)) →
      PSs (cxOf CX0 P w K mg base N x (defScope st) f cdv A outer s H E).nox (defBody st) (denS K (body n))) :
    Df P w K mg base (k + 1) x ps (fnM ps.length N.length body) :=
  ⟨⟨f, fd, fn_den F S hN hbody, hm, F.kp, hbi⟩, fun n ds st d st' h => fnM_len h⟩
end Dn
/-! Den9: the law's end. -/
namespace Dn
open PySem L2 PySem.Spec PyProof.Rows

theorem xdisp {X : Cx} {keys : List (Option Expr)} {values : List Expr} {pos : Pos} {kcs : List (Str × M PV)} (h : PPs X pos keys values (trsOf X.K kcs)) (hall : keys.all (·.isSome) = true := by rfl) (hl : keys.length = values.length := by rfl) (h0 : keys ≠ [] := by exact fun z => by cases z) (h15 : keys.length ≤ 15 := by decide) :
    PE X (.Dict keys values pos) (den X.K (dispM kcs)) := pe_imp (pe_disp h hall hl h0 h15) fun _ _ _ => den_disp

/-! ### a, b = e -/
def gNs : List Nat → TGs
  | [] => gNil
  | i :: r => gCons (gName i) (gNs r)
def setAll : List Nat → List PV → M Fl
  | [], [] => ret .nx
  | i :: is, d :: ds => bnd (setV i d) fun _ => setAll is ds
  | _, _ => stuck
def unpM (is : List Nat) (c : M PV) : M Fl := bnd c fun d => match d with
  | .tup xs => if xs.length = is.length then setAll is xs else stuck
  | _ => stuck
theorem den_setAll {K : PySem.W.Frag} : ∀ (is : List Nat) (ds : List PV) {C : Ctx} {W : Vw} {s : S} {σ : L2.St} {H : Hp} {D : Ends} {vs : List V}, At K C W s σ H → Reps K W vs ds → PstS K C W D (setAll is ds s) → gNs is vs σ H D.nx
  | [], [], C, W, s, σ, H, D, vs, a, r, p => by
    cases r
    exact ⟨rfl, p W σ H (Vw.Le.refl _) a⟩
  | i :: is, d :: ds, C, W, s, σ, H, D, vs, a, r, p => by
    cases r with
    | cons r rs => exact ⟨_, _, rfl, den_setAll is ds (a.set r i) rs p⟩
  | [], _ :: _, _, _, _, _, _, _, _, _, _, p => p.elim
  | _ :: _, [], _, _, _, _, _, _, _, _, _, p => p.elim
theorem den_unp {K : PySem.W.Frag} {is : List Nat} {ca : M PV} {D : Ends} {σ : L2.St} {H : Hp} (h : denS K (unpM is ca) D σ H) : tAsg (den K ca) (gTup K is.length (gNs is)) D σ H := by
  obtain ⟨C, W, s, at', p⟩ := h
  refine ⟨C, W, s, at', (PstS.bnd p).imp fun d s1 W1 H1 l1 at1 p1 v rv => ?_⟩
  cases d <;> try exact p1.elim
  rename_i xs
  cases rv with
  | tup hq rs =>
    have p2 : PstS K C W1 D ((if xs.length = is.length then setAll is xs else stuck) s1) := p1
    by_cases hl : xs.length = is.length
    · rw [if_pos hl] at p2
      exact ⟨_, _, rfl, same_t at1.ok.sub hq, by rw [rs.length]; exact hl, den_setAll _ _ at1 rs p2⟩
    · rw [if_neg hl] at p2
      exact p2.elim
theorem gn {X : Cx} (i : Nat) {x : Str} {px : Pos} (nd : X.N.Nodup) (hN : X.N[i]? = some x := by rfl) (hx : Loc X.env.scope x := by first | exact Or.inl rfl | exact Or.inr rfl) (hf : X.fn x = true ∨ X.env.scope.names.lookup x = some .local := by first | exact .inl rfl | exact .inr rfl | assumption) : PG X (.Name x px) (gName i) := pg_name nd hN hx hf
theorem sunp {X : Cx} (is : List Nat) {ca : M PV} {e : Expr} {es : List Expr} {pos pt : Pos} {kt : Nat} (hc : X.calm = true) (he : PE X e (den X.K ca)) (hg : PGs X es (gNs is)) (hn : (assignEach es X.env).length = is.length := by rfl) (hst : (assignEach es X.env).findIdx? (·.1) = none := by rfl)
    (hs : swapsWithSole [.Tuple es kt pt] e pos.line X.env = pure false := by rfl) (hw : swappedStores [.Tuple es kt pt] e X.env = pure none := by rfl) (h1 : (assignEach [.Tuple es kt pt] X.env).map (·.2) = [assign (.Tuple es kt pt) X.env] := by rfl) :
    PS X (.Assign [.Tuple es kt pt] e pos) (denS X.K (unpM is ca)) := ps_imp (ps_asg he (pg_tup hc hg hn hst) hs hw h1) fun _ _ _ => den_unp

/-- something new that nobody knows of -/
theorem At.extra {K : PySem.W.Frag} {C : Ctx} {W : Vw} {s : S} {σ : L2.St} {H : Hp} {p : Addr} (h : At K C W s σ H) (hp : H p = none) (o : HO) : At K C W s σ (upd H p o) := by
  obtain ⟨f1, f2, f3⟩ := h.fresh hp
  refine ⟨⟨fun b u e => ?_, fun n b e => ?_, h.ok.nd, h.ok.len⟩, fun b u e hb => ?_, h.pre, h.gro, h.len, h.val, fun j ys e => ?_, h.dst⟩
  · rw [upd_ne (ne_of_none e f1)]
    exact h.ok.sub b u e
  · obtain ⟨g1, mo, g2, g3⟩ := h.ok.hnd n b e
    exact ⟨g1, mo, g2, g3.other fun z => f2 (by rw [← z]; exact List.mem_of_getElem? e)⟩
  · rw [upd_ne (fun z => by rw [z, f3] at e; cases e)]
    exact h.keep b u e hb
  · obtain ⟨b, ws, e1, ow, e2, r2⟩ := h.own j ys e
    exact ⟨b, ws, e1, ow, by rw [upd_ne (ne_of_none e2 hp)]; exact e2, r2⟩
theorem den_tup2VO {K : PySem.W.Frag} {i j : Nat} {ca : M PV} {cb : M (List PV)} {D : Ends} {σ : L2.St} {H : Hp} (h : denS K (par2VO i j ca cb) D σ H) : tAsg (tTup (tCons (den K ca) (tCons (denO K cb) tNil))) (gTup K 2 (gNs [i, j])) D σ H := by
  obtain ⟨C, W, s, at', p⟩ := h
  refine ⟨C, W, s, at', (PstS.bnd p).imp fun x s1 W1 H1 l1 at1 p1 v rv => ⟨C, W1, s1, at1, (PstS.bnd p1).imp fun y s2 W2 H2 l2 at2 p2 q vs hq rvs => ?_⟩⟩
  refine ⟨by show 2 ≤ sizeLine; decide, fun t ht => ⟨t, _, rfl, SqT.of upd_same, rfl, ?_⟩⟩
  have at3 := ((at2.set (rv.mono l2) i).setO hq rvs j).extra ht (.tup [v, .ref q])
  exact ⟨_, _, rfl, _, _, rfl, rfl, p2 W2 _ _ (Vw.Le.refl _) at3⟩
/-- one of the names a cell -/
theorem spar2VOc (i j : Nat) {X : Cx} {x y : Str} {kt k2 : Nat} {px py pt pt2 pos : Pos} {a b : Expr} {ca : M PV} {cb : M (List PV)} (hc : X.calm = true) (nd : X.N.Nodup) (ha : PE X a (den X.K ca)) (hb : PE X b (denO X.K cb)) (h1 : starEach [a, b] X.env = (false, eval a X.env) :: starEach [b] X.env := by rfl)
    (h2 : starEach [b] X.env = (false, eval b X.env) :: starEach [] X.env := by rfl) (hg : PGs X [.Name x px, .Name y py] (gNs [i, j]) := by exact pgs_cons (gn _ nd) (pgs_cons (gn _ nd) pgs_nil)) (hn : (assignEach [.Name x px, .Name y py] X.env).length = 2 := by rfl) (hst : (assignEach [.Name x px, .Name y py] X.env).findIdx? (·.1) = none := by rfl)
    (hs : swapsWithSole [.Tuple [.Name x px, .Name y py] kt pt] (.Tuple [a, b] k2 pt2) pos.line X.env = pure false := by rfl) (hw : swappedStores [.Tuple [.Name x px, .Name y py] kt pt] (.Tuple [a, b] k2 pt2) X.env = pure none := by rfl)
    (h3 : (assignEach [.Tuple [.Name x px, .Name y py] kt pt] X.env).map (·.2) = [assign (.Tuple [.Name x px, .Name y py] kt pt) X.env] := by rfl) :
    PS X (.Assign [.Tuple [.Name x px, .Name y py] kt pt] (.Tuple [a, b] k2 pt2) pos) (denS X.K (par2VO i j ca cb)) := ps_imp (ps_asg (pe_tup (pa_cons ha (pa_cons hb pa_nil h2) h1)) (pg_tup hc hg hn hst) hs hw h3) fun _ _ _ => den_tup2VO

/-! ### -e -/
def negP : PV → Option PV
  | .int i => some (.int (-i))
  | _ => none
abbrev fNeg (a : PV) : M PV := lft (negP a)
theorem den_neg {K : PySem.W.Frag} {ca : M PV} {σ : L2.St} {H : Hp} {Q : VK} (h : den K (bnd ca fNeg) σ H Q) : tUn (rU fun i => .int (-i)) (den K ca) σ H Q := by
  obtain ⟨C, W, s, at', p⟩ := h
  refine ⟨C, W, s, at', (Pst.bnd p).imp fun a s1 W1 H1 l1 at1 p1 v rv => ?_⟩
  obtain ⟨d, e, q⟩ := p1.lft'
  have q0 := q W1 H1 (Vw.Le.refl W1) at1
  unfold negP at e
  split at e
  · cases e
    cases rv
    exact ⟨_, rfl, q0 _ (.int _)⟩
  · cases e
theorem xneg {X : Cx} {e : Expr} {ce : M PV} {pos : Pos} (h : PE X e (den X.K ce)) : PE X (.UnaryOp .USub e pos) (den X.K (bnd ce fNeg)) := pe_imp (pe_un un_neg h) fun _ _ _ => den_neg

/-- the script's place: known to the object, or one of the module's own -/
def scrH (K : PySem.W.Frag) (a : Addr) (ob : Obj) (ns : List Int) : Hp := fun b => if b = a ∧ K.lookup a = none then some (.frz ob (.lst (ns.map V.int))) else none
theorem law_den {l : PySem.W.OpenLaw} {k : Nat} {q : Program} {loose : List Str} {XP : (Str → Option Value) → Heap → Prop} {YP : World → Heap → Prop} {d : DefRec} {K : Params → PySem.W.Frag} {x : Str} {m : Fn}
    (hn : l.most = some 63) (hdf : d.params.defaults = []) (hr : Room k callerA) (hY : ∀ (w : World) (h : Heap), YP w h → (K w.params).In h)
    (F : ∀ (w : World) (mg : Str → Option Value) (fa : Addr) (h : Heap), (K w.params).In h → h.Ns mainGlobals mg → mg d.name = some (.ref fa) →
      ∃ fd : FuncData, (∀ (s : Shared) (u : Value), BindsTo s fd ⟨[u], []⟩ [(x, u)]) ∧
        ∀ base : Heap, (K w.params).In base → base.Ns mainGlobals mg → FnG l.prog w (K w.params) mg base CX0 k fa fd [x] (spM (K w.params) 1 m))
    (hm : ∀ ns : List Int, ns.length ≤ 63 → ∃ n st, m n [.scr ns] [] = .ok (.bl true) st) :
    PySem.W.WalkO q loose XP YP l.row.toRowW d [] (fun f vs => PySem.call f vs) := by
  refine Att.attach_call hn hdf fun w s₀ s₁ mg mb fa o pm cd doc a vs ns G Y ho hd hcd hmg hobj hints hlen hg => ?_
  have KX := hY w _ Y
  obtain ⟨fd, hbind, hF⟩ := F w mg fa _ KX G.T.g hmg
  have rv : Vals (ns.map V.int) vs := vals_ints hints
  have hsz : vs.length = ns.length := hints.length
  have hline : ns.length ≤ sizeLine := Nat.le_trans hlen (by decide)
  -- the abstract heap: the script alone
  obtain ⟨H, hH⟩ : ∃ H, H = scrH (K w.params) a { cls := .type "list", data := .seq vs.toArray } ns := ⟨_, rfl⟩
  have only : ∀ {b u}, H b = some u → b = a ∧ (K w.params).lookup a = none ∧ u = .frz { cls := .type "list", data := .seq vs.toArray } (.lst (ns.map V.int)) := fun {b u} e => by
    rw [hH] at e
    unfold scrH at e
    split at e
    · rename_i hc
      cases e
      exact ⟨hc.1, hc.2, rfl⟩
    · cases e
  have look : ∀ {b o es ep}, s₁.heap.get? b = some o → o.data = .dict es ep → H b = none := fun {b o es ep} e ed => by
    cases z : H b with
    | none => rfl
    | some u =>
      obtain ⟨rfl, _, _⟩ := only z
      rw [hobj] at e
      cases e
      cases ed
  have hok : HOk l.prog w H s₁.heap := fun b u e => by
    obtain ⟨rfl, _, rfl⟩ := only e
    exact ⟨hobj, by rw [List.length_map]; exact hline, vs, _, rv, hobj⟩
  have hS : SqL (K w.params) H a (ns.map V.int) := by
    cases hk : (K w.params).lookup a with
    | none =>
      refine .inl (.inr ⟨{ cls := .type "list", data := .seq vs.toArray }, ?_⟩)
      rw [hH]
      exact if_pos ⟨rfl, hk⟩
    | some ob =>
      have e := KX a ob hk
      rw [hobj] at e
      cases e
      exact .inr ⟨_, vs.toArray, _, hk, rfl, rfl, rfl, by rw [List.size_toArray, hsz]; exact hline, rv⟩
  have ns_in : ∀ {b m}, s₁.heap.Ns b m → (hidT s₁.heap H).Ns b m := fun {b m} ⟨o, es, ep, e, ed, r⟩ => ⟨o, es, ep, hidT_get e (look e ed), ed, r⟩
  have kin : (K w.params).In (hidT s₁.heap H) := fun b ob e => hidT_get (KX b ob e) (by
    cases z : H b with
    | none => rfl
    | some u =>
      obtain ⟨rfl, hz, _⟩ := only z
      rw [hz] at e
      cases e)
  obtain ⟨mc, n1, n2⟩ := G.T.nolimit
  have e0 : Env0 l.prog w (K w.params) mg (hidT s₁.heap H) callerA [] s₁ H :=
    ⟨rfl, ⟨kin, ns_in G.T.g, ⟨mb, ns_in G.T.b, G.T.builtins⟩, ⟨mc, ns_in n1, n2⟩⟩, fun b ob e => of_hidT e, Nat.le_of_eq (hidT_size _ _), trivial, fun b hb => (nomatch hb), hok, .of_eq hg⟩
  obtain ⟨n, st, run⟩ := hm ns hlen
  have sp : spM (K w.params) 1 m [.ref a] H (fun v _ => v = .bl true) (fun _ _ _ => False) := by
    refine ⟨rfl, n, ⟨H, []⟩, [], [.scr ns], ⟨Same.refl H, fun i b e => ?_, List.nodup_nil, rfl⟩, .cons (.scr hS) .nil, ?_⟩
    · exact absurd e (by simp)
    · rw [run]
      intro v W' H' _ _ _ r
      cases r
      rfl
  refine codeAny_mono ((hF _ kin (ns_in G.T.g)).run callerA [] s₁ H ⟨[.ref a], []⟩ [.ref a] [.ref a] _ _ rfl hr e0 (hbind s₁ (.ref a)) (.cons rfl .nil) sp) fun r s' hq => ?_
  cases r with
  | error e => exact False.elim hq
  | ok fl =>
    cases fl with
    | next => exact False.elim hq
    | brk => exact False.elim hq
    | cont => exact False.elim hq
    | ret u =>
      obtain ⟨v, H', os, bare, un, hok', ru, hv⟩ := hq
      subst hv
      obtain rfl : u = Value.bool true := ru
      refine ⟨rfl, OldK.of_keep fun b ob e => ?_, os, bare⟩
      cases z : H b with
      | none => exact un.keep b ob e z (fun q => nomatch q) (fun q => nomatch q)
      | some t =>
        obtain ⟨rfl, _, rfl⟩ := only z
        obtain ⟨k1, _⟩ := hok' b _ (un.frzs b _ _ z)
        rw [hobj] at e
        cases e
        exact k1
end Dn
namespace Lw
open PySem Dn PySem.Spec PyProof.Rows
open L2 hiding bin
def top (i : Nat) : Stmt := PySem.Challenge.pw_rounddown_k81_lists_that_split_all_lots.main.body.getD i (.Pass ⟨0, 0, 0, 0⟩)
/-- the built-ins stand as they are -/
structure Blt (mg : Str → Option Value) : Prop where
  abs : mg "abs" = none
  all : mg "all" = none
  any : mg "any" = none
  int : mg "int" = none
  len : mg "len" = none
  list : mg "list" = none
  range : mg "range" = none
  repr : mg "repr" = none
  sorted : mg "sorted" = none
  tuple : mg "tuple" = none
section
variable {P : Program} {w : World} {K : PySem.W.Frag} {mg : Str → Option Value} {base : Heap}
/-! ### _law_pen: 0 _law_script -/
abbrev s_law_pen : Stmt := top 5
theorem sc_law_pen : FnScope ["_law_script"] ["_law_script"] (defScope s_law_pen) := ⟨rfl, rfl, rfl, by decide +kernel, rfl, by decide +kernel, by decide +kernel⟩
def b_law_pen (n : Nat) : M Fl :=
  (retM (dispM (("cells", (lstM (bnd (slM (var 0) parN (parS (ret (.int 63)))) fList))) :: ("begun", (ret (.int 0))) :: ("left", (ret (.int 0))) :: [])))
def m_law_pen : Fn := fnM 1 1 b_law_pen
set_option maxHeartbeats 4000000 in
theorem ok_law_pen {f : Addr} {fd : FuncData} (T : Blt mg)  (F : Fun K "_law_pen" "_law_pen" s_law_pen f fd) (hm : mg "_law_pen" = some (.ref f)) (hbi : Binds K fd ["_law_script"] []) : Df P w K mg base 1 "_law_pen" ["_law_script"] m_law_pen :=
  df_of F hm sc_law_pen (by decide) hbi fun cdv A outer s H E n hgd hr => by
    have nd := sc_law_pen.nd
    have hu := roomU hr
    exact (bone (sret (xdisp (kC (xo (olist T.list (xsl (xv 0) qN (qS xint)))) (kC xint (kC xint kN))))))
/-! ### _law_draw: 0 _law_pen_here, 1 _law_many, 2 _law_digit, 3 _law_turn, 4 _law_cell, 5 _law_prime, 6 _law_mix -/
abbrev s_law_draw : Stmt := top 6
theorem sc_law_draw : FnScope ["_law_pen_here", "_law_many", "_law_digit", "_law_turn", "_law_cell", "_law_prime", "_law_mix"] ["_law_pen_here", "_law_many"] (defScope s_law_draw) := ⟨rfl, rfl, rfl, by decide +kernel, rfl, by decide +kernel, by decide +kernel⟩
def b_law_draw (n : Nat) : M Fl :=
  (seqM (ifM (asB (bin (bin (var 0) (ret (.str "left")) hgetP) (ret (.int 0)) opGt)) (seqM (asgM 2 (bin (bnd (bin (var 0) (ret (.str "left")) hgetP) fInt) (var 1) opMod))
    (seqM (hputM (var 0) (ret (.str "left")) (bin (bin (var 0) (ret (.str "left")) hgetP) (var 1) opDiv))
    (retM (var 2)))) skipM)
    (seqM (asgM 3 (bin (var 0) (ret (.str "begun")) hgetP))
    (seqM (hputM (var 0) (ret (.str "begun")) (bin (var 3) (ret (.int 1)) opAdd))
    (seqM (asgM 4 (bin (bin (ret (.int 29)) (var 3) opMul) (ret (.int 8)) opAdd))
    (seqM (ifM (asB (bin (bin (var 0) (ret (.str "cells")) hgetP) (lstM (fits argN)) opNe)) (asgM 4 (bin (bin (var 0) (ret (.str "cells")) hgetP) (bin (bnd (var 3) fInt) (bnd (bin (var 0) (ret (.str "cells")) hgetP) fLen) opMod) opIx)) skipM)
    (seqM (ifM (andT (asB (bin (var 3) (bnd (bin (var 0) (ret (.str "cells")) hgetP) fLen) opLt)) (asB (bin (bnd (var 4) fAbs) (bin (ret (.int 10)) (ret (.int 18)) opPow) opGe))) (seqM (hputM (var 0) (ret (.str "left")) (bin (bin (bnd (var 4) fAbs) (bin (ret (.int 10)) (ret (.int 18)) opPow) opSub) (var 1) opDiv))
    (retM (bin (bin (bnd (var 4) fAbs) (bin (ret (.int 10)) (ret (.int 18)) opPow) opSub) (var 1) opMod))) skipM)
    (seqM (asgM 5 (bin (lstM (fits (argC (ret (.int 2147483647)) (argC (ret (.int 2147483629)) (argC (ret (.int 2147483587)) (argC (ret (.int 2147483579)) (argC (ret (.int 2147483563)) argN))))))) (bin (bnd (var 3) fInt) (ret (.int 5)) opMod) opIx))
    (seqM (asgM 6 (bin (bin (bin (bnd (var 4) fInt) (var 5) opMod) (ret (.int 40692)) opMul) (bin (bin (ret (.int 69621)) (var 3) opMul) (var 3) opMul) opAdd))
    (seqM (asgM 6 (bin (bnd (bin (bin (var 6) (bin (ret (.int 1009)) (var 3) opMul) opAdd) (ret (.int 23)) opAdd) fInt) (var 5) opMod))
    (seqM (asgM 6 (bin (bnd (bin (bin (bin (var 6) (var 6) opMul) (bin (ret (.int 48271)) (var 6) opMul) opAdd) (var 3) opAdd) fInt) (ret (.int 2147483549)) opMod))
    (retM (bin (bnd (bin (bin (bnd (bin (var 6) (bin (var 6) (ret (.int 30011)) opAdd) opMul) fInt) (ret (.int 2147483543)) opMod) (ret (.int 32)) opDiv) fInt) (var 1) opMod))))))))))))
def m_law_draw : Fn := fnM 2 7 b_law_draw
set_option maxHeartbeats 4000000 in
theorem ok_law_draw {f : Addr} {fd : FuncData} (T : Blt mg)  (F : Fun K "_law_draw" "_law_draw" s_law_draw f fd) (hm : mg "_law_draw" = some (.ref f)) (hbi : Binds K fd ["_law_pen_here", "_law_many"] []) : Df P w K mg base 1 "_law_draw" ["_law_pen_here", "_law_many"] m_law_draw :=
  df_of F hm sc_law_draw (by decide) hbi fun cdv A outer s H E n hgd hr => by
    have nd := sc_law_draw.nd
    have hu := roomU hr
    exact (bcons (sif (tcmp k_gt (xhget hu (xv 0) xstr) xint) (bcons (sset 2 nd (xmod (xtoint T.int (xhget hu (xv 0) xstr)) (xv 1)))
    (bcons (shput hu (xv 0) xstr (xfdiv (xhget hu (xv 0) xstr) (xv 1)))
    (bone (sret (xv 2))))) bnil)
    (bcons (sset 3 nd (xhget hu (xv 0) xstr))
    (bcons (shput hu (xv 0) xstr (xadd (xv 3) xint))
    (bcons (sset 4 nd (xadd (xmul xint (xv 3)) xint))
    (bcons (sif (tcmp (k_ne hu) (xhget hu (xv 0) xstr) (xo (olst anil))) (bone (sset 4 nd (xix (xhget hu (xv 0) xstr) (xmod (xtoint T.int (xv 3)) (xlen T.len (xhget hu (xv 0) xstr)))))) bnil)
    (bcons (sif (PW.pt (wand (tcmp k_lt (xv 3) (xlen T.len (xhget hu (xv 0) xstr))) (pw_and1 (tcmp k_ge (xabs T.abs (xv 4)) (xpow xint xint))))) (bcons (shput hu (xv 0) xstr (xfdiv (xsub (xabs T.abs (xv 4)) (xpow xint xint)) (xv 1)))
    (bone (sret (xmod (xsub (xabs T.abs (xv 4)) (xpow xint xint)) (xv 1))))) bnil)
    (bcons (sset 5 nd (xix (xo (olst (acons xint (acons xint (acons xint (acons xint (acons xint anil))))))) (xmod (xtoint T.int (xv 3)) xint)))
    (bcons (sset 6 nd (xadd (xmul (xmod (xtoint T.int (xv 4)) (xv 5)) xint) (xmul (xmul xint (xv 3)) (xv 3))))
    (bcons (sset 6 nd (xmod (xtoint T.int (xadd (xadd (xv 6) (xmul xint (xv 3))) xint)) (xv 5)))
    (bcons (sset 6 nd (xmod (xtoint T.int (xadd (xadd (xmul (xv 6) (xv 6)) (xmul xint (xv 6))) (xv 3))) xint))
    (bone (sret (xmod (xtoint T.int (xfdiv (xmod (xtoint T.int (xmul (xv 6) (xadd (xv 6) xint))) xint) xint)) (xv 1))))))))))))))
/-! ### _law_shuffled: 0 _law_pen_here, 1 _law_some, 2 _law_pool, 3 _law_found -/
abbrev s_law_shuffled : Stmt := top 8
theorem sc_law_shuffled : FnScope ["_law_pen_here", "_law_some", "_law_pool", "_law_found"] ["_law_pen_here", "_law_some"] (defScope s_law_shuffled) := ⟨rfl, rfl, rfl, by decide +kernel, rfl, by decide +kernel, by decide +kernel⟩
def b_law_shuffled (n : Nat) : M Fl :=
  (seqM (par2OO 2 3 (bnd (var 1) fList) (fits argN))
    (seqM (whM (asB (binL 2 (lstM (fits argN)) opNe)) (dropM (appM 3 (popM 2 (callM m_law_draw n (argC (var 0) (argC (bnd (brw 2) fLen) argN)))))) n)
    (retM (var 3))))
def m_law_shuffled : Fn := fnM 2 4 b_law_shuffled
set_option maxHeartbeats 4000000 in
theorem ok_law_shuffled {f : Addr} {fd : FuncData} (T : Blt mg) (D_law_draw : Df P w K mg base 1 "_law_draw" ["_law_pen_here", "_law_many"] m_law_draw) (F : Fun K "_law_shuffled" "_law_shuffled" s_law_shuffled f fd) (hm : mg "_law_shuffled" = some (.ref f)) (hbi : Binds K fd ["_law_pen_here", "_law_some"] []) : Df P w K mg base 2 "_law_shuffled" ["_law_pen_here", "_law_some"] m_law_shuffled :=
  df_of F hm sc_law_shuffled (by decide) hbi fun cdv A outer s H E n hgd hr => by
    have nd := sc_law_shuffled.nd
    have hu := roomU hr
    exact (bcons (spar2OO 2 3 rfl nd (olist T.list (xv 1)) (olst anil))
    (bcons (swhile n PassesOwn.never (tcmpL (k_ne hu) 2 (xo (olst anil))) (bone (sexpr (xapp 3 (xpop 2 (xdef n D_law_draw hgd hr (by decide) (acons (xv 0) (acons (xlenL 2 T.len) anil))))))))
    (bone (sret (xv 3)))))
/-! ### _law_pick: 0 _law_pen_here, 1 _law_some -/
abbrev s_law_pick : Stmt := top 7
theorem sc_law_pick : FnScope ["_law_pen_here", "_law_some"] ["_law_pen_here", "_law_some"] (defScope s_law_pick) := ⟨rfl, rfl, rfl, by decide +kernel, rfl, by decide +kernel, by decide +kernel⟩
def b_law_pick (n : Nat) : M Fl :=
  (retM (bin (var 1) (callM m_law_draw n (argC (var 0) (argC (bnd (var 1) fLen) argN))) opIx))
def m_law_pick : Fn := fnM 2 2 b_law_pick
set_option maxHeartbeats 4000000 in
theorem ok_law_pick {f : Addr} {fd : FuncData} (T : Blt mg) (D_law_draw : Df P w K mg base 1 "_law_draw" ["_law_pen_here", "_law_many"] m_law_draw) (F : Fun K "_law_pick" "_law_pick" s_law_pick f fd) (hm : mg "_law_pick" = some (.ref f)) (hbi : Binds K fd ["_law_pen_here", "_law_some"] []) : Df P w K mg base 2 "_law_pick" ["_law_pen_here", "_law_some"] m_law_pick :=
  df_of F hm sc_law_pick (by decide) hbi fun cdv A outer s H E n hgd hr => by
    have nd := sc_law_pick.nd
    have hu := roomU hr
    exact (bone (sret (xix (xv 1) (xdef n D_law_draw hgd hr (by decide) (acons (xv 0) (acons (xlen T.len (xv 1)) anil))))))
/-! ### _law_names: 0 _law_pen_here, 1 _law_many, 2 _law_some, 3 _law_first, 4 _law_letters, 5 _law_found, 6 _law_stem, 7 _law_at, 8 _law_cut, 9 _law_gap, 10 _law_k, 11 _law_tail -/
abbrev s_law_names : Stmt := top 9
theorem sc_law_names : FnScope ["_law_pen_here", "_law_many", "_law_some", "_law_first", "_law_letters", "_law_found", "_law_stem", "_law_at", "_law_cut", "_law_gap", "_law_k", "_law_tail"] ["_law_pen_here", "_law_many"] (defScope s_law_names) := ⟨rfl, rfl, rfl, by decide +kernel, rfl, by decide +kernel, by decide +kernel⟩
def b_law_names (n : Nat) : M Fl :=
  (seqM (ifM (andT (asB (bin (callM m_law_draw n (argC (var 0) (argC (ret (.int 6)) argN))) (ret (.int 0)) opEq)) (asB (bin (var 1) (ret (.int 18)) opLe))) (seqM (asgM 2 (lstM (fits (argC (ret (.str "start")) (argC (ret (.str "goal")) (argC (ret (.str "none")) (argC (ret (.str "follow")) (argC (ret (.str "close")) (argC (ret (.str "fee")) (argC (ret (.str "add")) (argC (ret (.str "office")) (argC (ret (.str "currency")) (argC (ret (.str "exchange")) argN)))))))))))))
    (seqM (asgM 3 (callM m_law_draw n (argC (var 0) (argC (ret (.int 18)) argN))))
    (retM (slM (slM (bin (bin (var 2) (lstM (fits (argC (ret (.str "try")) (argC (ret (.str "undo")) (argC (ret (.str "a")) (argC (ret (.str "b")) (argC (ret (.str "never")) (argC (ret (.str "caps")) (argC (ret (.str "needs")) (argC (ret (.str "reach")) argN)))))))))) opAdd) (ret (.int 2)) opMul) (parS (var 3)) parN) parN (parS (var 1)))))) skipM)
    (seqM (par2VO 4 5 (ret (.str "abcdefghijklmnopqrstuvwxyz")) (fits argN))
    (seqM (asgM 6 (joinM (ret (.str "")) (lstM (lcM (rngM (bin (ret (.int 1)) (callM m_law_draw n (argC (var 0) (argC (ret (.int 8)) argN))) opAdd)) 10 [10] (ret true) (callM m_law_pick n (argC (var 0) (argC (var 4) argN)))))))
    (seqM (par3 7 3 8 (callM m_law_draw n (argC (var 0) (argC (bnd (var 6) fLen) argN))) (callM m_law_draw n (argC (var 0) (argC (ret (.int 26)) argN))) (callM m_law_draw n (argC (var 0) (argC (ret (.int 2)) argN))))
    (seqM (asgM 9 (callM m_law_pick n (argC (var 0) (argC (lstM (fits (argC (ret (.int 1)) (argC (ret (.int 3)) (argC (ret (.int 5)) (argC (ret (.int 7)) (argC (ret (.int 9)) (argC (ret (.int 11)) (argC (ret (.int 15)) (argC (ret (.int 17)) (argC (ret (.int 19)) (argC (ret (.int 21)) (argC (ret (.int 23)) (argC (ret (.int 25)) argN)))))))))))))) argN))))
    (seqM (loopM (rngM (var 1)) 10 (seqM (asgM 11 (slM (slM (var 6) (parS (bin (var 7) (ret (.int 1)) opAdd)) parN) parN (parS (bin (lstM (fits (argC (ret (.int 8)) (argC (bin (bnd (var 10) fInt) (ret (.int 3)) opMod) argN)))) (var 8) opIx))))
    (dropM (appM 5 (bin (bin (slM (var 6) parN (parS (var 7))) (bin (var 4) (bin (bnd (bin (var 3) (bin (var 9) (var 10) opMul) opAdd) fInt) (ret (.int 26)) opMod) opIx) opAdd) (var 11) opAdd)))))
    (retM (var 5))))))))
def m_law_names : Fn := fnM 2 12 b_law_names
set_option maxHeartbeats 4000000 in
theorem ok_law_names {f : Addr} {fd : FuncData} (T : Blt mg) (D_law_draw : Df P w K mg base 1 "_law_draw" ["_law_pen_here", "_law_many"] m_law_draw) (D_law_pick : Df P w K mg base 2 "_law_pick" ["_law_pen_here", "_law_some"] m_law_pick) (F : Fun K "_law_names" "_law_names" s_law_names f fd) (hm : mg "_law_names" = some (.ref f)) (hbi : Binds K fd ["_law_pen_here", "_law_many"] []) : Df P w K mg base 3 "_law_names" ["_law_pen_here", "_law_many"] m_law_names :=
  df_of F hm sc_law_names (by decide) hbi fun cdv A outer s H E n hgd hr => by
    have nd := sc_law_names.nd
    have hu := roomU hr
    exact (bcons (sif (PW.pt (wand (tcmp (k_eq hu) (xdef n D_law_draw hgd hr (by decide) (acons (xv 0) (acons xint anil))) xint) (pw_and1 (tcmp k_le (xv 1) xint)))) (bcons (sset 2 nd (xo (olst (acons xstr (acons xstr (acons xstr (acons xstr (acons xstr (acons xstr (acons xstr (acons xstr (acons xstr (acons xstr anil)))))))))))))
    (bcons (sset 3 nd (xdef n D_law_draw hgd hr (by decide) (acons (xv 0) (acons xint anil))))
    (bone (sret (xsl (xsl (xmul (xadd (xv 2) (xo (olst (acons xstr (acons xstr (acons xstr (acons xstr (acons xstr (acons xstr (acons xstr (acons xstr anil))))))))))) xint) (qS (xv 3)) qN) qN (qS (xv 1))))))) bnil)
    (bcons (spar2VOc 4 5 rfl nd xstr (olst anil) (hg := pgs_cons (gn 4 nd) (pgs_cons (gn 5 nd) pgs_nil)))
    (bcons (sset 6 nd (xjoin xstr (xo (olc 10 (own := [("_law_k", 10)]) rfl nd (irng T.range (xadd xint (xdef n D_law_draw hgd hr (by decide) (acons (xv 0) (acons xint anil))))) src_rng (blkOk_by (by kernel_rfl)) (by decide) (fun _ _ _ _ _ => pg_name (i := 10) nd rfl (by first | exact Or.inl rfl | exact Or.inr rfl)) (fun _ _ _ _ _ => tsN) (fun _ _ _ _ _ => (xdef n D_law_pick hgd hr (by decide) (acons (xv 0) (acons (xv 4) anil))))))))
    (bcons (spar3 7 3 8 rfl nd (xdef n D_law_draw hgd hr (by decide) (acons (xv 0) (acons (xlen T.len (xv 6)) anil))) (xdef n D_law_draw hgd hr (by decide) (acons (xv 0) (acons xint anil))) (xdef n D_law_draw hgd hr (by decide) (acons (xv 0) (acons xint anil))))
    (bcons (sset 9 nd (xdef n D_law_pick hgd hr (by decide) (acons (xv 0) (acons (xo (olst (acons xint (acons xint (acons xint (acons xint (acons xint (acons xint (acons xint (acons xint (acons xint (acons xint (acons xint (acons xint anil)))))))))))))) anil))))
    (bcons (sfor 10 rfl nd PassesOwn.never (irng T.range (xv 1)) src_rng (bcons (sset 11 nd (xsl (xsl (xv 6) (qS (xadd (xv 7) xint)) qN) qN (qS (xix (xo (olst (acons xint (acons (xmod (xtoint T.int (xv 10)) xint) anil)))) (xv 8)))))
    (bone (sexpr (xapp 5 (xadd (xadd (xsl (xv 6) qN (qS (xv 7))) (xix (xv 4) (xmod (xtoint T.int (xadd (xv 3) (xmul (xv 9) (xv 10)))) xint))) (xv 11)))))))
    (bone (sret (xv 5)))))))))
/-! ### _law_lots: 0 _law_names_here, 1 _law_found, 2 _law_name, 3 _law_lot -/
abbrev s_law_lots : Stmt := top 10
theorem sc_law_lots : FnScope ["_law_names_here", "_law_found", "_law_name", "_law_lot"] ["_law_names_here"] (defScope s_law_lots) := ⟨rfl, rfl, rfl, by decide +kernel, rfl, by decide +kernel, by decide +kernel⟩
def b_law_lots (n : Nat) : M Fl :=
  (seqM (asgM 1 (lstM (fits (argC (tupM argN) argN))))
    (seqM (loopM (itemsM (lstM (bnd (var 0) fSort))) 2 (asgM 1 (bin (var 1) (lstM (lcM (itemsM (var 1)) 3 [3] (ret true) (bin (var 3) (tupM (argC (var 2) argN)) opAdd))) opAdd)))
    (retM (lstM (bnd (var 1) fSortLen)))))
def m_law_lots : Fn := fnM 1 4 b_law_lots
set_option maxHeartbeats 4000000 in
theorem ok_law_lots {f : Addr} {fd : FuncData} (T : Blt mg)  (F : Fun K "_law_lots" "_law_lots" s_law_lots f fd) (hm : mg "_law_lots" = some (.ref f)) (hbi : Binds K fd ["_law_names_here"] []) : Df P w K mg base 1 "_law_lots" ["_law_names_here"] m_law_lots :=
  df_of F hm sc_law_lots (by decide) hbi fun cdv A outer s H E n hgd hr => by
    have nd := sc_law_lots.nd
    have hu := roomU hr
    exact (bcons (sset 1 nd (xo (olst (acons (xtup anil) anil))))
    (bcons (sfor 2 rfl nd PassesOwn.never (iu (xo (osort T.sorted (xv 0)))) src_u (bone (sset 1 nd (xadd (xv 1) (xo (olc 3 (own := [("_law_lot", 3)]) rfl nd (iu (xv 1)) src_u (blkOk_by (by kernel_rfl)) (by decide) (fun _ _ _ _ _ => pg_name (i := 3) nd rfl (by first | exact Or.inl rfl | exact Or.inr rfl)) (fun _ _ _ _ _ => tsN) (fun _ _ _ _ _ => (xadd (xv 3) (xtup (acons (xv 2) anil))))))))))
    (bone (sret (xo (osortLen T.sorted T.len (xv 1)))))))
/-! ### _law_inside: 0 _law_lot, 1 _law_other, 2 _law_name -/
abbrev s_law_inside : Stmt := top 11
theorem sc_law_inside : FnScope ["_law_lot", "_law_other", "_law_name"] ["_law_lot", "_law_other"] (defScope s_law_inside) := ⟨rfl, rfl, rfl, by decide +kernel, rfl, by decide +kernel, by decide +kernel⟩
def b_law_inside (n : Nat) : M Fl :=
  (retM (bin (lstM (lcM (itemsM (var 0)) 2 [2] (asB (bin (var 2) (var 1) opNotIn)) (var 2))) (lstM (fits argN)) opEq))
def m_law_inside : Fn := fnM 2 3 b_law_inside
set_option maxHeartbeats 4000000 in
theorem ok_law_inside {f : Addr} {fd : FuncData} (T : Blt mg)  (F : Fun K "_law_inside" "_law_inside" s_law_inside f fd) (hm : mg "_law_inside" = some (.ref f)) (hbi : Binds K fd ["_law_lot", "_law_other"] []) : Df P w K mg base 1 "_law_inside" ["_law_lot", "_law_other"] m_law_inside :=
  df_of F hm sc_law_inside (by decide) hbi fun cdv A outer s H E n hgd hr => by
    have nd := sc_law_inside.nd
    have hu := roomU hr
    exact (bone (sret (xcmp (k_eq hu) (xo (olc 2 (own := [("_law_name", 2)]) rfl nd (iu (xv 0)) src_u (blkOk_by (by kernel_rfl)) (by decide) (fun _ _ _ _ _ => pg_name (i := 2) nd rfl (by first | exact Or.inl rfl | exact Or.inr rfl)) (fun _ _ _ _ _ => (tsC (tcmp (k_notin hu) (xv 2) (xv 1)))) (fun _ _ _ _ _ => (xv 2)))) (xo (olst anil)))))
/-! ### _law_family: 0 _law_pen_here, 1 _law_every, 2 _law_some, 3 _law_k, 4 _law_lot, 5 _law_one -/
abbrev s_law_family : Stmt := top 12
theorem sc_law_family : FnScope ["_law_pen_here", "_law_every", "_law_some", "_law_k", "_law_lot", "_law_one"] ["_law_pen_here", "_law_every"] (defScope s_law_family) := ⟨rfl, rfl, rfl, by decide +kernel, rfl, by decide +kernel, by decide +kernel⟩
def b_law_family (n : Nat) : M Fl :=
  (seqM (asgM 2 (lstM (lcM (rngM (callM m_law_draw n (argC (var 0) (argC (ret (.int 4)) argN)))) 3 [3] (ret true) (callM m_law_pick n (argC (var 0) (argC (var 1) argN))))))
    (retM (lstM (lcM (itemsM (var 1)) 4 [4] (asB (bin (lstM (lcM (itemsM (var 2)) 5 [5] (asB (callM m_law_inside n (argC (var 5) (argC (var 4) argN)))) (var 5))) (lstM (fits argN)) opNe)) (var 4)))))
def m_law_family : Fn := fnM 2 6 b_law_family
set_option maxHeartbeats 4000000 in
theorem ok_law_family {f : Addr} {fd : FuncData} (T : Blt mg) (D_law_draw : Df P w K mg base 1 "_law_draw" ["_law_pen_here", "_law_many"] m_law_draw) (D_law_pick : Df P w K mg base 2 "_law_pick" ["_law_pen_here", "_law_some"] m_law_pick) (D_law_inside : Df P w K mg base 1 "_law_inside" ["_law_lot", "_law_other"] m_law_inside) (F : Fun K "_law_family" "_law_family" s_law_family f fd) (hm : mg "_law_family" = some (.ref f)) (hbi : Binds K fd ["_law_pen_here", "_law_every"] []) : Df P w K mg base 3 "_law_family" ["_law_pen_here", "_law_every"] m_law_family :=
  df_of F hm sc_law_family (by decide) hbi fun cdv A outer s H E n hgd hr => by
    have nd := sc_law_family.nd
    have hu := roomU hr
    exact (bcons (sset 2 nd (xo (olc 3 (own := [("_law_k", 3)]) rfl nd (irng T.range (xdef n D_law_draw hgd hr (by decide) (acons (xv 0) (acons xint anil)))) src_rng (blkOk_by (by kernel_rfl)) (by decide) (fun _ _ _ _ _ => pg_name (i := 3) nd rfl (by first | exact Or.inl rfl | exact Or.inr rfl)) (fun _ _ _ _ _ => tsN) (fun _ _ _ _ _ => (xdef n D_law_pick hgd hr (by decide) (acons (xv 0) (acons (xv 1) anil)))))))
    (bone (sret (xo (olc 4 (own := [("_law_lot", 4)]) rfl nd (iu (xv 1)) src_u (blkOk_by (by kernel_rfl)) (by decide) (fun _ _ _ _ _ => pg_name (i := 4) nd rfl (by first | exact Or.inl rfl | exact Or.inr rfl)) (fun _ _ _ _ _ => (tsC (tcmp (k_ne hu) (xo (olc 5 (own := [("_law_one", 5)]) rfl nd (iu (xv 2)) src_u (blkOk_by (by kernel_rfl)) (by decide) (fun _ _ _ _ _ => pg_name (i := 5) nd rfl (by first | exact Or.inl rfl | exact Or.inr rfl)) (fun _ _ _ _ _ => (tsC (tval (xdef n D_law_inside hgd hr (by decide) (acons (xv 5) (acons (xv 4) anil)))))) (fun _ _ _ _ _ => (xv 5)))) (xo (olst anil))))) (fun _ _ _ _ _ => (xv 4)))))))
/-! ### _law_lists: 0 _law_pen_here, 1 _law_every, 2 _law_family_here, 3 _law_rest_of, 4 _law_low, 5 _law_high, 6 _law_way, 7 _law_names_here, 8 _law_other, 9 _law_lot, 10 _law_one, 11 _law_word -/
abbrev s_law_lists : Stmt := top 13
theorem sc_law_lists : FnScope ["_law_pen_here", "_law_every", "_law_family_here", "_law_rest_of", "_law_low", "_law_high", "_law_way", "_law_names_here", "_law_other", "_law_lot", "_law_one", "_law_word"] ["_law_pen_here", "_law_every"] (defScope s_law_lists) := ⟨rfl, rfl, rfl, by decide +kernel, rfl, by decide +kernel, by decide +kernel⟩
def b_law_lists (n : Nat) : M Fl :=
  (seqM (asgM 2 (callM m_law_family n (argC (var 0) (argC (var 1) argN))))
    (seqM (asgM 3 (lstM (lcM (itemsM (var 1)) 9 [9] (asB (bin (var 9) (var 2) opNotIn)) (var 9))))
    (seqM (asgM 4 (lstM (lcM (itemsM (var 2)) 9 [9] (asB (bin (lstM (lcM (itemsM (var 2)) 10 [10] (andT (asB (bin (var 10) (var 9) opNe)) (asB (callM m_law_inside n (argC (var 10) (argC (var 9) argN))))) (var 10))) (lstM (fits argN)) opEq)) (var 9))))
    (seqM (asgM 5 (lstM (lcM (itemsM (var 3)) 9 [9] (asB (bin (lstM (lcM (itemsM (var 3)) 10 [10] (andT (asB (bin (var 10) (var 9) opNe)) (asB (callM m_law_inside n (argC (var 9) (argC (var 10) argN))))) (var 10))) (lstM (fits argN)) opEq)) (var 9))))
    (seqM (par2 4 5 (callM m_law_pick n (argC (var 0) (argC (lstM (fits (argC (var 4) (argC (var 4) (argC (var 2) argN))))) argN))) (callM m_law_pick n (argC (var 0) (argC (lstM (fits (argC (var 5) (argC (var 5) (argC (var 3) argN))))) argN))))
    (seqM (unpM [6, 7] (tupM (argC (callM m_law_draw n (argC (var 0) (argC (ret (.int 8)) argN))) (argC (bin (lstM (bnd (var 1) fSortLen)) (bnd (ret (.int 1)) fNeg) opIx) argN))))
    (seqM (asgM 8 (bin (lstM (lcM (itemsM (lstM (fits (argC (ret (.str "zzzzzzzz")) (argC (ret (.str "yy")) (argC (ret (.str "xx")) (argC (ret (.str "ww")) (argC (ret (.str "vv")) (argC (ret (.str "uu")) (argC (ret (.str "tt")) argN)))))))))) 11 [11] (asB (bin (var 11) (var 7) opNotIn)) (var 11))) (ret (.int 0)) opIx))
    (seqM (ifM (asB (bin (var 6) (ret (.int 5)) opGt)) (asgM 4 (bin (var 4) (lstM (fits (argC (bnd (lstM (bnd (bin (callM m_law_pick n (argC (var 0) (argC (var 1) argN))) (tupM (argC (var 8) argN)) opAdd) fSort)) fTuple) argN))) opAdd)) skipM)
    (seqM (ifM (asB (bin (var 6) (ret (.int 6)) opEq)) (asgM 5 (bin (var 5) (lstM (fits (argC (bnd (lstM (bnd (bin (callM m_law_pick n (argC (var 0) (argC (var 1) argN))) (tupM (argC (var 8) argN)) opAdd) fSort)) fTuple) argN))) opAdd)) skipM)
    (seqM (ifM (asB (bin (var 6) (ret (.int 0)) opEq)) (asgM 4 (slM (var 4) (parS (ret (.int 1))) parN)) skipM)
    (seqM (ifM (asB (bin (var 6) (ret (.int 1)) opEq)) (asgM 5 (slM (var 5) parN (parS (bnd (ret (.int 1)) fNeg)))) skipM)
    (seqM (ifM (asB (bin (var 6) (ret (.int 2)) opEq)) (asgM 4 (bin (var 4) (lstM (fits (argC (callM m_law_pick n (argC (var 0) (argC (var 1) argN))) argN))) opAdd)) skipM)
    (seqM (ifM (asB (bin (var 6) (ret (.int 3)) opEq)) (asgM 5 (bin (lstM (fits (argC (callM m_law_pick n (argC (var 0) (argC (var 1) argN))) argN))) (var 5) opAdd)) skipM)
    (retM (tupM (argC (callM m_law_shuffled n (argC (var 0) (argC (var 4) argN))) (argC (callM m_law_shuffled n (argC (var 0) (argC (var 5) argN))) argN)))))))))))))))))
def m_law_lists : Fn := fnM 2 12 b_law_lists
set_option maxHeartbeats 4000000 in
theorem ok_law_lists {f : Addr} {fd : FuncData} (T : Blt mg) (D_law_family : Df P w K mg base 3 "_law_family" ["_law_pen_here", "_law_every"] m_law_family) (D_law_inside : Df P w K mg base 1 "_law_inside" ["_law_lot", "_law_other"] m_law_inside) (D_law_pick : Df P w K mg base 2 "_law_pick" ["_law_pen_here", "_law_some"] m_law_pick) (D_law_draw : Df P w K mg base 1 "_law_draw" ["_law_pen_here", "_law_many"] m_law_draw) (D_law_shuffled : Df P w K mg base 2 "_law_shuffled" ["_law_pen_here", "_law_some"] m_law_shuffled) (F : Fun K "_law_lists" "_law_lists" s_law_lists f fd) (hm : mg "_law_lists" = some (.ref f)) (hbi : Binds K fd ["_law_pen_here", "_law_every"] []) : Df P w K mg base 4 "_law_lists" ["_law_pen_here", "_law_every"] m_law_lists :=
  df_of F hm sc_law_lists (by decide) hbi fun cdv A outer s H E n hgd hr => by
    have nd := sc_law_lists.nd
    have hu := roomU hr
    exact (bcons (sset 2 nd (xdef n D_law_family hgd hr (by decide) (acons (xv 0) (acons (xv 1) anil))))
    (bcons (sset 3 nd (xo (olc 9 (own := [("_law_lot", 9)]) rfl nd (iu (xv 1)) src_u (blkOk_by (by kernel_rfl)) (by decide) (fun _ _ _ _ _ => pg_name (i := 9) nd rfl (by first | exact Or.inl rfl | exact Or.inr rfl)) (fun _ _ _ _ _ => (tsC (tcmp (k_notin hu) (xv 9) (xv 2)))) (fun _ _ _ _ _ => (xv 9)))))
    (bcons (slcV 4 9 (own := [("_law_lot", 9)]) rfl nd (iu (xv 2)) src_u (blkOk_by (by kernel_rfl)) (by decide) (fun _ _ _ _ _ => pg_name (i := 9) nd rfl (by first | exact Or.inl rfl | exact Or.inr rfl)) (fun _ _ _ _ _ => (tsC (tcmp (k_eq hu) (xo (olc 10 (own := [("_law_one", 10)]) rfl nd (iu (xv 2)) src_u (blkOk_by (by kernel_rfl)) (by decide) (fun _ _ _ _ _ => pg_name (i := 10) nd rfl (by first | exact Or.inl rfl | exact Or.inr rfl)) (fun _ _ _ _ _ => (tsC (PW.pt (wand (tcmp (k_ne hu) (xv 10) (xv 9)) (pw_and1 (tval (xdef n D_law_inside hgd hr (by decide) (acons (xv 10) (acons (xv 9) anil))))))))) (fun _ _ _ _ _ => (xv 10)))) (xo (olst anil))))) (fun _ _ _ _ _ => (xv 9)))
    (bcons (slcV 5 9 (own := [("_law_lot", 9)]) rfl nd (iu (xv 3)) src_u (blkOk_by (by kernel_rfl)) (by decide) (fun _ _ _ _ _ => pg_name (i := 9) nd rfl (by first | exact Or.inl rfl | exact Or.inr rfl)) (fun _ _ _ _ _ => (tsC (tcmp (k_eq hu) (xo (olc 10 (own := [("_law_one", 10)]) rfl nd (iu (xv 3)) src_u (blkOk_by (by kernel_rfl)) (by decide) (fun _ _ _ _ _ => pg_name (i := 10) nd rfl (by first | exact Or.inl rfl | exact Or.inr rfl)) (fun _ _ _ _ _ => (tsC (PW.pt (wand (tcmp (k_ne hu) (xv 10) (xv 9)) (pw_and1 (tval (xdef n D_law_inside hgd hr (by decide) (acons (xv 9) (acons (xv 10) anil))))))))) (fun _ _ _ _ _ => (xv 10)))) (xo (olst anil))))) (fun _ _ _ _ _ => (xv 9)))
    (bcons (spar2 4 5 rfl nd (xdef n D_law_pick hgd hr (by decide) (acons (xv 0) (acons (xo (olst (acons (xv 4) (acons (xv 4) (acons (xv 2) anil))))) anil))) (xdef n D_law_pick hgd hr (by decide) (acons (xv 0) (acons (xo (olst (acons (xv 5) (acons (xv 5) (acons (xv 3) anil))))) anil))))
    (bcons (sunp [6, 7] rfl (xtup (acons (xdef n D_law_draw hgd hr (by decide) (acons (xv 0) (acons xint anil))) (acons (xix (xo (osortLen T.sorted T.len (xv 1))) (xneg xint)) anil))) (pgs_cons (gn 6 nd) (pgs_cons (gn 7 nd) pgs_nil)))
    (bcons (sset 8 nd (xix (xo (olc 11 (own := [("_law_word", 11)]) rfl nd (iu (xo (olst (acons xstr (acons xstr (acons xstr (acons xstr (acons xstr (acons xstr (acons xstr anil)))))))))) src_u (blkOk_by (by kernel_rfl)) (by decide) (fun _ _ _ _ _ => pg_name (i := 11) nd rfl (by first | exact Or.inl rfl | exact Or.inr rfl)) (fun _ _ _ _ _ => (tsC (tcmp (k_notin hu) (xv 11) (xv 7)))) (fun _ _ _ _ _ => (xv 11)))) xint))
    (bcons (sif (tcmp k_gt (xv 6) xint) (bone (sset 4 nd (xadd (xv 4) (xo (olst (acons (xtuple T.tuple (xo (osort T.sorted (xadd (xdef n D_law_pick hgd hr (by decide) (acons (xv 0) (acons (xv 1) anil))) (xtup (acons (xv 8) anil)))))) anil)))))) bnil)
    (bcons (sif (tcmp (k_eq hu) (xv 6) xint) (bone (sset 5 nd (xadd (xv 5) (xo (olst (acons (xtuple T.tuple (xo (osort T.sorted (xadd (xdef n D_law_pick hgd hr (by decide) (acons (xv 0) (acons (xv 1) anil))) (xtup (acons (xv 8) anil)))))) anil)))))) bnil)
    (bcons (sif (tcmp (k_eq hu) (xv 6) xint) (bone (sset 4 nd (xsl (xv 4) (qS xint) qN))) bnil)
    (bcons (sif (tcmp (k_eq hu) (xv 6) xint) (bone (sset 5 nd (xsl (xv 5) qN (qS (xneg xint))))) bnil)
    (bcons (sif (tcmp (k_eq hu) (xv 6) xint) (bone (sset 4 nd (xadd (xv 4) (xo (olst (acons (xdef n D_law_pick hgd hr (by decide) (acons (xv 0) (acons (xv 1) anil))) anil)))))) bnil)
    (bcons (sif (tcmp (k_eq hu) (xv 6) xint) (bone (sset 5 nd (xadd (xo (olst (acons (xdef n D_law_pick hgd hr (by decide) (acons (xv 0) (acons (xv 1) anil))) anil))) (xv 5)))) bnil)
    (bone (sret (xtup (acons (xdef n D_law_shuffled hgd hr (by decide) (acons (xv 0) (acons (xv 4) anil))) (acons (xdef n D_law_shuffled hgd hr (by decide) (acons (xv 0) (acons (xv 5) anil))) anil))))))))))))))))))
/-! ### _law_due: 0 _law_every, 1 _law_low, 2 _law_high, 3 _law_lot, 4 _law_is_shut, 5 _law_one -/
abbrev s_law_due : Stmt := top 14
theorem sc_law_due : FnScope ["_law_every", "_law_low", "_law_high", "_law_lot", "_law_is_shut", "_law_one"] ["_law_every", "_law_low", "_law_high"] (defScope s_law_due) := ⟨rfl, rfl, rfl, by decide +kernel, rfl, by decide +kernel, by decide +kernel⟩
def b_law_due (n : Nat) : M Fl :=
  (seqM (loopM (itemsM (var 0)) 3 (seqM (asgM 4 (bin (lstM (lcM (itemsM (var 1)) 5 [5] (asB (callM m_law_inside n (argC (var 5) (argC (var 3) argN)))) (var 5))) (lstM (fits argN)) opNe))
    (ifM (asB (bin (var 4) (bin (lstM (lcM (itemsM (var 2)) 5 [5] (asB (callM m_law_inside n (argC (var 3) (argC (var 5) argN)))) (var 5))) (lstM (fits argN)) opNe) opEq)) (retM (ret (.bl false))) skipM)))
    (retM (ret (.bl true))))
def m_law_due : Fn := fnM 3 6 b_law_due
set_option maxHeartbeats 4000000 in
theorem ok_law_due {f : Addr} {fd : FuncData} (T : Blt mg) (D_law_inside : Df P w K mg base 1 "_law_inside" ["_law_lot", "_law_other"] m_law_inside) (F : Fun K "_law_due" "_law_due" s_law_due f fd) (hm : mg "_law_due" = some (.ref f)) (hbi : Binds K fd ["_law_every", "_law_low", "_law_high"] []) : Df P w K mg base 2 "_law_due" ["_law_every", "_law_low", "_law_high"] m_law_due :=
  df_of F hm sc_law_due (by decide) hbi fun cdv A outer s H E n hgd hr => by
    have nd := sc_law_due.nd
    have hu := roomU hr
    exact (bcons (sfor 3 rfl nd PassesOwn.never (iu (xv 0)) src_u (bcons (sset 4 nd (xcmp (k_ne hu) (xo (olc 5 (own := [("_law_one", 5)]) rfl nd (iu (xv 1)) src_u (blkOk_by (by kernel_rfl)) (by decide) (fun _ _ _ _ _ => pg_name (i := 5) nd rfl (by first | exact Or.inl rfl | exact Or.inr rfl)) (fun _ _ _ _ _ => (tsC (tval (xdef n D_law_inside hgd hr (by decide) (acons (xv 5) (acons (xv 3) anil)))))) (fun _ _ _ _ _ => (xv 5)))) (xo (olst anil))))
    (bone (sif (tcmp (k_eq hu) (xv 4) (xcmp (k_ne hu) (xo (olc 5 (own := [("_law_one", 5)]) rfl nd (iu (xv 2)) src_u (blkOk_by (by kernel_rfl)) (by decide) (fun _ _ _ _ _ => pg_name (i := 5) nd rfl (by first | exact Or.inl rfl | exact Or.inr rfl)) (fun _ _ _ _ _ => (tsC (tval (xdef n D_law_inside hgd hr (by decide) (acons (xv 3) (acons (xv 5) anil)))))) (fun _ _ _ _ _ => (xv 5)))) (xo (olst anil)))) (bone (sret xbl)) bnil))))
    (bone (sret xbl)))
/-! ### all_lots: 0 names, 1 found, 2 name, 3 lot -/
abbrev s_all_lots : Stmt := top 1
theorem sc_all_lots : FnScope ["names", "found", "name", "lot"] ["names"] (defScope s_all_lots) := ⟨rfl, rfl, rfl, by decide +kernel, rfl, by decide +kernel, by decide +kernel⟩
def b_all_lots (n : Nat) : M Fl :=
  (seqM (asgM 1 (lstM (fits (argC (tupM argN) argN))))
    (seqM (loopM (itemsM (lstM (bnd (var 0) fSort))) 2 (asgM 1 (bin (var 1) (lstM (lcM (itemsM (var 1)) 3 [3] (ret true) (bin (var 3) (tupM (argC (var 2) argN)) opAdd))) opAdd)))
    (retM (lstM (bnd (var 1) fSortLen)))))
def m_all_lots : Fn := fnM 1 4 b_all_lots
set_option maxHeartbeats 4000000 in
theorem ok_all_lots {f : Addr} {fd : FuncData} (T : Blt mg)  (F : Fun K "all_lots" "all_lots" s_all_lots f fd) (hm : mg "all_lots" = some (.ref f)) (hbi : Binds K fd ["names"] []) : Df P w K mg base 1 "all_lots" ["names"] m_all_lots :=
  df_of F hm sc_all_lots (by decide) hbi fun cdv A outer s H E n hgd hr => by
    have nd := sc_all_lots.nd
    have hu := roomU hr
    exact (bcons (sset 1 nd (xo (olst (acons (xtup anil) anil))))
    (bcons (sfor 2 rfl nd PassesOwn.never (iu (xo (osort T.sorted (xv 0)))) src_u (bone (sset 1 nd (xadd (xv 1) (xo (olc 3 (own := [("lot", 3)]) rfl nd (iu (xv 1)) src_u (blkOk_by (by kernel_rfl)) (by decide) (fun _ _ _ _ _ => pg_name (i := 3) nd rfl (by first | exact Or.inl rfl | exact Or.inr rfl)) (fun _ _ _ _ _ => tsN) (fun _ _ _ _ _ => (xadd (xv 3) (xtup (acons (xv 2) anil))))))))))
    (bone (sret (xo (osortLen T.sorted T.len (xv 1)))))))
/-! ### is_within: 0 lot, 1 other, 2 name -/
abbrev s_is_within : Stmt := top 2
theorem sc_is_within : FnScope ["lot", "other", "name"] ["lot", "other"] (defScope s_is_within) := ⟨rfl, rfl, rfl, by decide +kernel, rfl, by decide +kernel, by decide +kernel⟩
def b_is_within (n : Nat) : M Fl :=
  (retM (bnd (lstM (lcM (itemsM (var 0)) 2 [2] (ret true) (bin (var 2) (var 1) opIn))) fAll))
def m_is_within : Fn := fnM 2 3 b_is_within
set_option maxHeartbeats 4000000 in
theorem ok_is_within {f : Addr} {fd : FuncData} (T : Blt mg)  (F : Fun K "is_within" "is_within" s_is_within f fd) (hm : mg "is_within" = some (.ref f)) (hbi : Binds K fd ["lot", "other"] []) : Df P w K mg base 1 "is_within" ["lot", "other"] m_is_within :=
  df_of F hm sc_is_within (by decide) hbi fun cdv A outer s H E n hgd hr => by
    have nd := sc_is_within.nd
    have hu := roomU hr
    exact (bone (sret (xall rfl T.all (xo (olc 2 (own := [("name", 2)]) rfl nd (iu (xv 0)) src_u (blkOk_by (by kernel_rfl)) (by decide) (fun _ _ _ _ _ => pg_name (i := 2) nd rfl (by first | exact Or.inl rfl | exact Or.inr rfl)) (fun _ _ _ _ _ => tsN) (fun _ _ _ _ _ => (xcmp (k_in hu) (xv 2) (xv 1))))))))
/-! ### is_split: 0 names, 1 stopping, 2 passing, 3 lot, 4 one -/
abbrev s_is_split : Stmt := top 3
theorem sc_is_split : FnScope ["names", "stopping", "passing", "lot", "one"] ["names", "stopping", "passing"] (defScope s_is_split) := ⟨rfl, rfl, rfl, by decide +kernel, rfl, by decide +kernel, by decide +kernel⟩
def b_is_split (n : Nat) : M Fl :=
  (seqM (loopM (itemsM (callM m_all_lots n (argC (var 0) argN))) 3 (ifM (asB (bin (bnd (lstM (lcM (itemsM (var 1)) 4 [4] (ret true) (callM m_is_within n (argC (var 4) (argC (var 3) argN))))) fAny) (bnd (lstM (lcM (itemsM (var 2)) 4 [4] (ret true) (callM m_is_within n (argC (var 3) (argC (var 4) argN))))) fAny) opEq)) (retM (ret (.bl false))) skipM))
    (retM (ret (.bl true))))
def m_is_split : Fn := fnM 3 5 b_is_split
set_option maxHeartbeats 4000000 in
theorem ok_is_split {f : Addr} {fd : FuncData} (T : Blt mg) (D_all_lots : Df P w K mg base 1 "all_lots" ["names"] m_all_lots) (D_is_within : Df P w K mg base 1 "is_within" ["lot", "other"] m_is_within) (F : Fun K "is_split" "is_split" s_is_split f fd) (hm : mg "is_split" = some (.ref f)) (hbi : Binds K fd ["names", "stopping", "passing"] []) : Df P w K mg base 2 "is_split" ["names", "stopping", "passing"] m_is_split :=
  df_of F hm sc_is_split (by decide) hbi fun cdv A outer s H E n hgd hr => by
    have nd := sc_is_split.nd
    have hu := roomU hr
    exact (bcons (sfor 3 rfl nd PassesOwn.never (iu (xdef n D_all_lots hgd hr (by decide) (acons (xv 0) anil))) src_u (bone (sif (tcmp (k_eq hu) (xany rfl T.any (xo (olc 4 (own := [("one", 4)]) rfl nd (iu (xv 1)) src_u (blkOk_by (by kernel_rfl)) (by decide) (fun _ _ _ _ _ => pg_name (i := 4) nd rfl (by first | exact Or.inl rfl | exact Or.inr rfl)) (fun _ _ _ _ _ => tsN) (fun _ _ _ _ _ => (xdef n D_is_within hgd hr (by decide) (acons (xv 4) (acons (xv 3) anil))))))) (xany rfl T.any (xo (olc 4 (own := [("one", 4)]) rfl nd (iu (xv 2)) src_u (blkOk_by (by kernel_rfl)) (by decide) (fun _ _ _ _ _ => pg_name (i := 4) nd rfl (by first | exact Or.inl rfl | exact Or.inr rfl)) (fun _ _ _ _ _ => tsN) (fun _ _ _ _ _ => (xdef n D_is_within hgd hr (by decide) (acons (xv 3) (acons (xv 4) anil)))))))) (bone (sret xbl)) bnil)))
    (bone (sret xbl)))
/-! ### law: 0 _law_script, 1 _law_pen_here, 2 _law_turn, 3 _law_titles, 4 _law_every, 5 _law_low, 6 _law_high, 7 _law_due_here, 8 _law_kept -/
abbrev s_law : Stmt := top 15
theorem sc_law : FnScope ["_law_script", "_law_pen_here", "_law_turn", "_law_titles", "_law_every", "_law_low", "_law_high", "_law_due_here", "_law_kept"] ["_law_script"] (defScope s_law) := ⟨rfl, rfl, rfl, by decide +kernel, rfl, by decide +kernel, by decide +kernel⟩
def b_law (n : Nat) : M Fl :=
  (seqM (asgM 1 (callM m_law_pen n (argC (var 0) argN)))
    (seqM (loopM (rngM (ret (.int 30))) 2 (seqM (asgM 3 (callM m_law_shuffled n (argC (var 1) (argC (callM m_law_names n (argC (var 1) (argC (callM m_law_draw n (argC (var 1) (argC (ret (.int 7)) argN))) argN))) argN))))
    (seqM (asgM 4 (callM m_law_lots n (argC (var 3) argN)))
    (seqM (unpM [5, 6] (callM m_law_lists n (argC (var 1) (argC (var 4) argN))))
    (seqM (asgM 7 (bnd (callM m_law_due n (argC (var 4) (argC (var 5) (argC (var 6) argN)))) fRepr))
    (seqM (asgM 8 (bnd (lstM (fits (argC (var 3) (argC (var 5) (argC (var 6) argN))))) fRepr))
    (seqM (ifM (asB (bin (bnd (callM m_is_split n (argC (var 3) (argC (var 5) (argC (var 6) argN)))) fRepr) (var 7) opNe)) (retM (ret (.bl false))) skipM)
    (seqM (ifM (asB (bin (bnd (callM m_is_split n (argC (bnd (var 3) fTuple) (argC (bnd (revM (var 5)) fTuple) (argC (bnd (revM (var 6)) fTuple) argN)))) fRepr) (var 7) opNe)) (retM (ret (.bl false))) skipM)
    (ifM (asB (bin (bnd (lstM (fits (argC (var 3) (argC (var 5) (argC (var 6) argN))))) fRepr) (var 8) opNe)) (retM (ret (.bl false))) skipM)))))))))
    (retM (ret (.bl true)))))
def m_law : Fn := fnM 1 9 b_law
set_option maxHeartbeats 4000000 in
theorem law_fn {f : Addr} {fd : FuncData} (T : Blt mg) (D_law_pen : Df P w K mg base 1 "_law_pen" ["_law_script"] m_law_pen) (D_law_shuffled : Df P w K mg base 2 "_law_shuffled" ["_law_pen_here", "_law_some"] m_law_shuffled) (D_law_names : Df P w K mg base 3 "_law_names" ["_law_pen_here", "_law_many"] m_law_names) (D_law_draw : Df P w K mg base 1 "_law_draw" ["_law_pen_here", "_law_many"] m_law_draw) (D_law_lots : Df P w K mg base 1 "_law_lots" ["_law_names_here"] m_law_lots) (D_law_lists : Df P w K mg base 4 "_law_lists" ["_law_pen_here", "_law_every"] m_law_lists) (D_law_due : Df P w K mg base 2 "_law_due" ["_law_every", "_law_low", "_law_high"] m_law_due) (D_is_split : Df P w K mg base 2 "is_split" ["names", "stopping", "passing"] m_is_split) (F : Fun K "law" "law" s_law f fd) : FnG P w K mg base CX0 5 f fd ["_law_script"] (spM K 1 m_law) :=
  fn_den F sc_law (by decide) fun cdv A outer s H E n hgd hr => by
    have nd := sc_law.nd
    have hu := roomU hr
    exact (bcons (sset 1 nd (xdef n D_law_pen hgd hr (by decide) (acons (xv 0) anil)))
    (bcons (sfor 2 rfl nd PassesOwn.never (irng T.range xint) src_rng (bcons (sset 3 nd (xdef n D_law_shuffled hgd hr (by decide) (acons (xv 1) (acons (xdef n D_law_names hgd hr (by decide) (acons (xv 1) (acons (xdef n D_law_draw hgd hr (by decide) (acons (xv 1) (acons xint anil))) anil))) anil))))
    (bcons (sset 4 nd (xdef n D_law_lots hgd hr (by decide) (acons (xv 3) anil)))
    (bcons (sunp [5, 6] rfl (xdef n D_law_lists hgd hr (by decide) (acons (xv 1) (acons (xv 4) anil))) (pgs_cons (gn 5 nd) (pgs_cons (gn 6 nd) pgs_nil)))
    (bcons (sset 7 nd (xrepr hgd hu T.repr (xdef n D_law_due hgd hr (by decide) (acons (xv 4) (acons (xv 5) (acons (xv 6) anil))))))
    (bcons (sset 8 nd (xrepr hgd hu T.repr (xo (olst (acons (xv 3) (acons (xv 5) (acons (xv 6) anil)))))))
    (bcons (sif (tcmp (k_ne hu) (xrepr hgd hu T.repr (xdef n D_is_split hgd hr (by decide) (acons (xv 3) (acons (xv 5) (acons (xv 6) anil))))) (xv 7)) (bone (sret xbl)) bnil)
    (bcons (sif (tcmp (k_ne hu) (xrepr hgd hu T.repr (xdef n D_is_split hgd hr (by decide) (acons (xtuple T.tuple (xv 3)) (acons (xtuple T.tuple (xrev (xv 5))) (acons (xtuple T.tuple (xrev (xv 6))) anil))))) (xv 7)) (bone (sret xbl)) bnil)
    (bone (sif (tcmp (k_ne hu) (xrepr hgd hu T.repr (xo (olst (acons (xv 3) (acons (xv 5) (acons (xv 6) anil)))))) (xv 8)) (bone (sret xbl)) bnil))))))))))
    (bone (sret xbl))))
end
theorem all_mk {l : PySem.W.OpenLaw} {w : World} {K : PySem.W.Frag} {h : Heap} {mg : Str → Option Value} {fa : Addr} (X : K.In h) (G : h.Ns mainGlobals mg) (hfa : mg "law" = some (.ref fa))
    {f0 : Addr} {od0 an0 : Option Addr} {sl0 : Array (Option Value)} {oc0 kV0 dc0 pm0 cd0 ct0 : Value} (a0 : PySem.W.nsIn K mainGlobals "_law_pen" = some (some (.ref f0))) (l0 : K.lookup f0 = some ⟨oc0, od0, .func (PySem.W.fnOf "_law_pen" "_law_pen" (defArgs s_law_pen) (defBody s_law_pen) (defScope s_law_pen) .none kV0 dc0 pm0 an0 cd0 ct0), sl0⟩) (c0 : PySem.W.codeIn K cd0 "_law_pen" = true) (k0 : PySem.W.keepIn K (.ref f0) = true)
    {f1 : Addr} {od1 an1 : Option Addr} {sl1 : Array (Option Value)} {oc1 kV1 dc1 pm1 cd1 ct1 : Value} (a1 : PySem.W.nsIn K mainGlobals "_law_draw" = some (some (.ref f1))) (l1 : K.lookup f1 = some ⟨oc1, od1, .func (PySem.W.fnOf "_law_draw" "_law_draw" (defArgs s_law_draw) (defBody s_law_draw) (defScope s_law_draw) .none kV1 dc1 pm1 an1 cd1 ct1), sl1⟩) (c1 : PySem.W.codeIn K cd1 "_law_draw" = true) (k1 : PySem.W.keepIn K (.ref f1) = true)
    {f2 : Addr} {od2 an2 : Option Addr} {sl2 : Array (Option Value)} {oc2 kV2 dc2 pm2 cd2 ct2 : Value} (a2 : PySem.W.nsIn K mainGlobals "_law_shuffled" = some (some (.ref f2))) (l2 : K.lookup f2 = some ⟨oc2, od2, .func (PySem.W.fnOf "_law_shuffled" "_law_shuffled" (defArgs s_law_shuffled) (defBody s_law_shuffled) (defScope s_law_shuffled) .none kV2 dc2 pm2 an2 cd2 ct2), sl2⟩) (c2 : PySem.W.codeIn K cd2 "_law_shuffled" = true) (k2 : PySem.W.keepIn K (.ref f2) = true)
    {f3 : Addr} {od3 an3 : Option Addr} {sl3 : Array (Option Value)} {oc3 kV3 dc3 pm3 cd3 ct3 : Value} (a3 : PySem.W.nsIn K mainGlobals "_law_pick" = some (some (.ref f3))) (l3 : K.lookup f3 = some ⟨oc3, od3, .func (PySem.W.fnOf "_law_pick" "_law_pick" (defArgs s_law_pick) (defBody s_law_pick) (defScope s_law_pick) .none kV3 dc3 pm3 an3 cd3 ct3), sl3⟩) (c3 : PySem.W.codeIn K cd3 "_law_pick" = true) (k3 : PySem.W.keepIn K (.ref f3) = true)
    {f4 : Addr} {od4 an4 : Option Addr} {sl4 : Array (Option Value)} {oc4 kV4 dc4 pm4 cd4 ct4 : Value} (a4 : PySem.W.nsIn K mainGlobals "_law_names" = some (some (.ref f4))) (l4 : K.lookup f4 = some ⟨oc4, od4, .func (PySem.W.fnOf "_law_names" "_law_names" (defArgs s_law_names) (defBody s_law_names) (defScope s_law_names) .none kV4 dc4 pm4 an4 cd4 ct4), sl4⟩) (c4 : PySem.W.codeIn K cd4 "_law_names" = true) (k4 : PySem.W.keepIn K (.ref f4) = true)
    {f5 : Addr} {od5 an5 : Option Addr} {sl5 : Array (Option Value)} {oc5 kV5 dc5 pm5 cd5 ct5 : Value} (a5 : PySem.W.nsIn K mainGlobals "_law_lots" = some (some (.ref f5))) (l5 : K.lookup f5 = some ⟨oc5, od5, .func (PySem.W.fnOf "_law_lots" "_law_lots" (defArgs s_law_lots) (defBody s_law_lots) (defScope s_law_lots) .none kV5 dc5 pm5 an5 cd5 ct5), sl5⟩) (c5 : PySem.W.codeIn K cd5 "_law_lots" = true) (k5 : PySem.W.keepIn K (.ref f5) = true)
    {f6 : Addr} {od6 an6 : Option Addr} {sl6 : Array (Option Value)} {oc6 kV6 dc6 pm6 cd6 ct6 : Value} (a6 : PySem.W.nsIn K mainGlobals "_law_inside" = some (some (.ref f6))) (l6 : K.lookup f6 = some ⟨oc6, od6, .func (PySem.W.fnOf "_law_inside" "_law_inside" (defArgs s_law_inside) (defBody s_law_inside) (defScope s_law_inside) .none kV6 dc6 pm6 an6 cd6 ct6), sl6⟩) (c6 : PySem.W.codeIn K cd6 "_law_inside" = true) (k6 : PySem.W.keepIn K (.ref f6) = true)
    {f7 : Addr} {od7 an7 : Option Addr} {sl7 : Array (Option Value)} {oc7 kV7 dc7 pm7 cd7 ct7 : Value} (a7 : PySem.W.nsIn K mainGlobals "_law_family" = some (some (.ref f7))) (l7 : K.lookup f7 = some ⟨oc7, od7, .func (PySem.W.fnOf "_law_family" "_law_family" (defArgs s_law_family) (defBody s_law_family) (defScope s_law_family) .none kV7 dc7 pm7 an7 cd7 ct7), sl7⟩) (c7 : PySem.W.codeIn K cd7 "_law_family" = true) (k7 : PySem.W.keepIn K (.ref f7) = true)
    {f8 : Addr} {od8 an8 : Option Addr} {sl8 : Array (Option Value)} {oc8 kV8 dc8 pm8 cd8 ct8 : Value} (a8 : PySem.W.nsIn K mainGlobals "_law_lists" = some (some (.ref f8))) (l8 : K.lookup f8 = some ⟨oc8, od8, .func (PySem.W.fnOf "_law_lists" "_law_lists" (defArgs s_law_lists) (defBody s_law_lists) (defScope s_law_lists) .none kV8 dc8 pm8 an8 cd8 ct8), sl8⟩) (c8 : PySem.W.codeIn K cd8 "_law_lists" = true) (k8 : PySem.W.keepIn K (.ref f8) = true)
    {f9 : Addr} {od9 an9 : Option Addr} {sl9 : Array (Option Value)} {oc9 kV9 dc9 pm9 cd9 ct9 : Value} (a9 : PySem.W.nsIn K mainGlobals "_law_due" = some (some (.ref f9))) (l9 : K.lookup f9 = some ⟨oc9, od9, .func (PySem.W.fnOf "_law_due" "_law_due" (defArgs s_law_due) (defBody s_law_due) (defScope s_law_due) .none kV9 dc9 pm9 an9 cd9 ct9), sl9⟩) (c9 : PySem.W.codeIn K cd9 "_law_due" = true) (k9 : PySem.W.keepIn K (.ref f9) = true)
    {f10 : Addr} {od10 an10 : Option Addr} {sl10 : Array (Option Value)} {oc10 kV10 dc10 pm10 cd10 ct10 : Value} (a10 : PySem.W.nsIn K mainGlobals "all_lots" = some (some (.ref f10))) (l10 : K.lookup f10 = some ⟨oc10, od10, .func (PySem.W.fnOf "all_lots" "all_lots" (defArgs s_all_lots) (defBody s_all_lots) (defScope s_all_lots) .none kV10 dc10 pm10 an10 cd10 ct10), sl10⟩) (c10 : PySem.W.codeIn K cd10 "all_lots" = true) (k10 : PySem.W.keepIn K (.ref f10) = true)
    {f11 : Addr} {od11 an11 : Option Addr} {sl11 : Array (Option Value)} {oc11 kV11 dc11 pm11 cd11 ct11 : Value} (a11 : PySem.W.nsIn K mainGlobals "is_within" = some (some (.ref f11))) (l11 : K.lookup f11 = some ⟨oc11, od11, .func (PySem.W.fnOf "is_within" "is_within" (defArgs s_is_within) (defBody s_is_within) (defScope s_is_within) .none kV11 dc11 pm11 an11 cd11 ct11), sl11⟩) (c11 : PySem.W.codeIn K cd11 "is_within" = true) (k11 : PySem.W.keepIn K (.ref f11) = true)
    {f12 : Addr} {od12 an12 : Option Addr} {sl12 : Array (Option Value)} {oc12 kV12 dc12 pm12 cd12 ct12 : Value} (a12 : PySem.W.nsIn K mainGlobals "is_split" = some (some (.ref f12))) (l12 : K.lookup f12 = some ⟨oc12, od12, .func (PySem.W.fnOf "is_split" "is_split" (defArgs s_is_split) (defBody s_is_split) (defScope s_is_split) .none kV12 dc12 pm12 an12 cd12 ct12), sl12⟩) (c12 : PySem.W.codeIn K cd12 "is_split" = true) (k12 : PySem.W.keepIn K (.ref f12) = true)
    {f13 : Addr} {od13 an13 : Option Addr} {sl13 : Array (Option Value)} {oc13 kV13 dc13 pm13 cd13 ct13 : Value} (a13 : PySem.W.nsIn K mainGlobals "law" = some (some (.ref f13))) (l13 : K.lookup f13 = some ⟨oc13, od13, .func (PySem.W.fnOf "law" "law" (defArgs s_law) (defBody s_law) (defScope s_law) .none kV13 dc13 pm13 an13 cd13 ct13), sl13⟩) (c13 : PySem.W.codeIn K cd13 "law" = true) (k13 : PySem.W.keepIn K (.ref f13) = true)
    (z_abs : PySem.W.nsIn K mainGlobals "abs" = some none) (z_all : PySem.W.nsIn K mainGlobals "all" = some none) (z_any : PySem.W.nsIn K mainGlobals "any" = some none) (z_int : PySem.W.nsIn K mainGlobals "int" = some none) (z_len : PySem.W.nsIn K mainGlobals "len" = some none) (z_list : PySem.W.nsIn K mainGlobals "list" = some none) (z_range : PySem.W.nsIn K mainGlobals "range" = some none) (z_repr : PySem.W.nsIn K mainGlobals "repr" = some none) (z_sorted : PySem.W.nsIn K mainGlobals "sorted" = some none) (z_tuple : PySem.W.nsIn K mainGlobals "tuple" = some none) :
    ∃ fd : FuncData, (∀ (s : Shared) (v : Value), BindsTo s fd ⟨[v], []⟩ [("_law_script", v)]) ∧ ∀ base : Heap, K.In base → base.Ns mainGlobals mg → FnG l.prog w K mg base CX0 5 fa fd ["_law_script"] (spM K 1 m_law) := by
  have e := hfa.symm.trans (PySem.W.mg_of X G a13)
  cases e
  have T : Blt mg := ⟨PySem.W.mg_none_of X G z_abs, PySem.W.mg_none_of X G z_all, PySem.W.mg_none_of X G z_any, PySem.W.mg_none_of X G z_int, PySem.W.mg_none_of X G z_len, PySem.W.mg_none_of X G z_list, PySem.W.mg_none_of X G z_range, PySem.W.mg_none_of X G z_repr, PySem.W.mg_none_of X G z_sorted, PySem.W.mg_none_of X G z_tuple⟩
  have F0 := fun_mk (st := s_law_pen) l0 c0 k0
  have b0 := F0.binds (ps := ["_law_script"]) fun _ _ _ _ _ _ us hl => match us, hl with | [_], _ => rfl
  have F1 := fun_mk (st := s_law_draw) l1 c1 k1
  have b1 := F1.binds (ps := ["_law_pen_here", "_law_many"]) fun _ _ _ _ _ _ us hl => match us, hl with | [_, _], _ => rfl
  have F2 := fun_mk (st := s_law_shuffled) l2 c2 k2
  have b2 := F2.binds (ps := ["_law_pen_here", "_law_some"]) fun _ _ _ _ _ _ us hl => match us, hl with | [_, _], _ => rfl
  have F3 := fun_mk (st := s_law_pick) l3 c3 k3
  have b3 := F3.binds (ps := ["_law_pen_here", "_law_some"]) fun _ _ _ _ _ _ us hl => match us, hl with | [_, _], _ => rfl
  have F4 := fun_mk (st := s_law_names) l4 c4 k4
  have b4 := F4.binds (ps := ["_law_pen_here", "_law_many"]) fun _ _ _ _ _ _ us hl => match us, hl with | [_, _], _ => rfl
  have F5 := fun_mk (st := s_law_lots) l5 c5 k5
  have b5 := F5.binds (ps := ["_law_names_here"]) fun _ _ _ _ _ _ us hl => match us, hl with | [_], _ => rfl
  have F6 := fun_mk (st := s_law_inside) l6 c6 k6
  have b6 := F6.binds (ps := ["_law_lot", "_law_other"]) fun _ _ _ _ _ _ us hl => match us, hl with | [_, _], _ => rfl
  have F7 := fun_mk (st := s_law_family) l7 c7 k7
  have b7 := F7.binds (ps := ["_law_pen_here", "_law_every"]) fun _ _ _ _ _ _ us hl => match us, hl with | [_, _], _ => rfl
  have F8 := fun_mk (st := s_law_lists) l8 c8 k8
  have b8 := F8.binds (ps := ["_law_pen_here", "_law_every"]) fun _ _ _ _ _ _ us hl => match us, hl with | [_, _], _ => rfl
  have F9 := fun_mk (st := s_law_due) l9 c9 k9
  have b9 := F9.binds (ps := ["_law_every", "_law_low", "_law_high"]) fun _ _ _ _ _ _ us hl => match us, hl with | [_, _, _], _ => rfl
  have F10 := fun_mk (st := s_all_lots) l10 c10 k10
  have b10 := F10.binds (ps := ["names"]) fun _ _ _ _ _ _ us hl => match us, hl with | [_], _ => rfl
  have F11 := fun_mk (st := s_is_within) l11 c11 k11
  have b11 := F11.binds (ps := ["lot", "other"]) fun _ _ _ _ _ _ us hl => match us, hl with | [_, _], _ => rfl
  have F12 := fun_mk (st := s_is_split) l12 c12 k12
  have b12 := F12.binds (ps := ["names", "stopping", "passing"]) fun _ _ _ _ _ _ us hl => match us, hl with | [_, _, _], _ => rfl
  have F13 := fun_mk (st := s_law) l13 c13 k13
  have b13 := F13.binds (ps := ["_law_script"]) fun _ _ _ _ _ _ us hl => match us, hl with | [_], _ => rfl
  refine ⟨PySem.W.fnOf "law" "law" (defArgs s_law) (defBody s_law) (defScope s_law) .none kV13 dc13 pm13 an13 cd13 ct13, fun s v => .of_eq rfl, fun base _ _ => ?_⟩
  have D0 : Df l.prog w K mg base 1 "_law_pen" ["_law_script"] m_law_pen := ok_law_pen T  F0 (PySem.W.mg_of X G a0) b0
  have D1 : Df l.prog w K mg base 1 "_law_draw" ["_law_pen_here", "_law_many"] m_law_draw := ok_law_draw T  F1 (PySem.W.mg_of X G a1) b1
  have D2 : Df l.prog w K mg base 2 "_law_shuffled" ["_law_pen_here", "_law_some"] m_law_shuffled := ok_law_shuffled T D1 F2 (PySem.W.mg_of X G a2) b2
  have D3 : Df l.prog w K mg base 2 "_law_pick" ["_law_pen_here", "_law_some"] m_law_pick := ok_law_pick T D1 F3 (PySem.W.mg_of X G a3) b3
  have D4 : Df l.prog w K mg base 3 "_law_names" ["_law_pen_here", "_law_many"] m_law_names := ok_law_names T D1 D3 F4 (PySem.W.mg_of X G a4) b4
  have D5 : Df l.prog w K mg base 1 "_law_lots" ["_law_names_here"] m_law_lots := ok_law_lots T  F5 (PySem.W.mg_of X G a5) b5
  have D6 : Df l.prog w K mg base 1 "_law_inside" ["_law_lot", "_law_other"] m_law_inside := ok_law_inside T  F6 (PySem.W.mg_of X G a6) b6
  have D7 : Df l.prog w K mg base 3 "_law_family" ["_law_pen_here", "_law_every"] m_law_family := ok_law_family T D1 D3 D6 F7 (PySem.W.mg_of X G a7) b7
  have D8 : Df l.prog w K mg base 4 "_law_lists" ["_law_pen_here", "_law_every"] m_law_lists := ok_law_lists T D7 D6 D3 D1 D2 F8 (PySem.W.mg_of X G a8) b8
  have D9 : Df l.prog w K mg base 2 "_law_due" ["_law_every", "_law_low", "_law_high"] m_law_due := ok_law_due T D6 F9 (PySem.W.mg_of X G a9) b9
  have D10 : Df l.prog w K mg base 1 "all_lots" ["names"] m_all_lots := ok_all_lots T  F10 (PySem.W.mg_of X G a10) b10
  have D11 : Df l.prog w K mg base 1 "is_within" ["lot", "other"] m_is_within := ok_is_within T  F11 (PySem.W.mg_of X G a11) b11
  have D12 : Df l.prog w K mg base 2 "is_split" ["names", "stopping", "passing"] m_is_split := ok_is_split T D10 D11 F12 (PySem.W.mg_of X G a12) b12
  exact law_fn T D0 D2 D4 D1 D5 D8 D9 D12 F13
end Lw
/-! Pl: plain reasoning about computations: what an answer is like. -/
namespace Dn
open PySem

section
variable {α β : Type} {s : S} {env : Env} {st : List MO} {Q : α → S → Prop} {QB : β → S → Prop} {c : M α} {i j k : Nat} {ca cb cd : M PV} {fa fb : M Fl}
/-- c answers, and Q holds of the answer and the state behind it -/
def Ok (c : M α) (s : S) (Q : α → S → Prop) : Prop := match c s with
  | .ok a s' => Q a s'
  | .exc _ _ => False
  | .stk => False
theorem Ok.ex (h : Ok c s Q) : ∃ a s', c s = .ok a s' ∧ Q a s' := by
  unfold Ok at h
  cases e : c s with
  | ok a s' => rw [e] at h; exact ⟨a, s', rfl, h⟩
  | exc => rw [e] at h; exact h.elim
  | stk => rw [e] at h; exact h.elim
theorem Ok.of {a : α} {s' : S} (e : c s = .ok a s') (h : Q a s') : Ok c s Q := by unfold Ok; rw [e]; exact h
theorem Ok.imp {Q' : α → S → Prop} (h : Ok c s Q) (f : ∀ a s', Q a s' → Q' a s') : Ok c s Q' := by
  obtain ⟨a, s', e, q⟩ := h.ex
  exact Ok.of e (f a s' q)
theorem ok_ret {a : α} : Ok (ret a) s Q ↔ Q a s := Iff.rfl
theorem ok_bnd {f : α → M β} : Ok (bnd c f) s QB ↔ Ok c s (fun a s' => Ok (f a) s' QB) := by
  unfold Ok bnd
  cases c s <;> exact Iff.rfl
theorem ok_lft {o : Option α} : Ok (lft o) s Q ↔ ∃ a, o = some a ∧ Q a s := by
  unfold Ok lft
  cases o with
  | none => exact ⟨fun h => h.elim, fun ⟨_, h, _⟩ => nomatch h⟩
  | some a => exact ⟨fun h => ⟨a, rfl, h⟩, fun ⟨_, h, q⟩ => by cases h; exact q⟩
theorem ok_ite {p : Prop} [Decidable p] {c d : M α} : Ok (if p then c else d) s Q ↔ if p then Ok c s Q else Ok d s Q := by
  split <;> exact Iff.rfl
def varK (i : Nat) (env : Env) (st : List MO) (Q : PV → S → Prop) : Option (Option SV) → Prop
  | some (some (.val d)) => Q d ⟨env, st⟩
  | some (some (.own xs)) => Q (.lst xs) ⟨env.set i (some (.val (.lst xs))), st⟩
  | _ => False
theorem ok_var {Q : PV → S → Prop} : Ok (var i) ⟨env, st⟩ Q ↔ varK i env st Q env[i]? := by
  unfold Ok var varK
  dsimp only
  rcases env[i]? with _ | _ | sv
  · exact Iff.rfl
  · exact Iff.rfl
  · cases sv <;> exact Iff.rfl
theorem varK_val {Q : PV → S → Prop} {d : PV} : varK i env st Q (some (some (.val d))) ↔ Q d ⟨env, st⟩ := Iff.rfl
theorem varK_own {Q : PV → S → Prop} {xs : List PV} : varK i env st Q (some (some (.own xs))) ↔ Q (.lst xs) ⟨env.set i (some (.val (.lst xs))), st⟩ := Iff.rfl
def brwK (s : S) (Q : PV → S → Prop) : Option (Option SV) → Prop
  | some (some sv) => Q sv.pv s
  | _ => False
theorem ok_brw {Q : PV → S → Prop} : Ok (brw i) ⟨env, st⟩ Q ↔ brwK ⟨env, st⟩ Q env[i]? := by
  unfold Ok brw brwK
  dsimp only
  rcases env[i]? with _ | _ | sv <;> exact Iff.rfl
theorem brwK_some {Q : PV → S → Prop} {sv : SV} : brwK s Q (some (some sv)) ↔ Q sv.pv s := Iff.rfl
theorem ok_chk {Q : Unit → S → Prop} {sv : SV} (h : env[i]? = some (some sv)) : Ok (chk i) ⟨env, st⟩ Q ↔ Q () ⟨env, st⟩ := by
  unfold Ok chk
  simp only [h]
theorem pv_val {d : PV} : (SV.val d).pv = d := rfl
theorem pv_own {xs : List PV} : (SV.own xs).pv = .lst xs := rfl
theorem ok_bin {op : PV → PV → M PV} {Q : PV → S → Prop} : Ok (bin ca cb op) s Q ↔ Ok ca s (fun a s' => Ok cb s' (fun b s2 => Ok (op a b) s2 Q)) := by
  unfold bin
  rw [ok_bnd]
  exact ⟨fun h => h.imp fun a s' q => ok_bnd.mp q, fun h => h.imp fun a s' q => ok_bnd.mpr q⟩
theorem ok_binL {op : PV → PV → M PV} {Q : PV → S → Prop} : Ok (binL i cb op) s Q ↔ Ok (chk i) s (fun _ s1 => Ok cb s1 (fun b s2 => Ok (brw i) s2 (fun a s3 => Ok (op a b) s3 Q))) := by
  unfold binL
  rw [ok_bnd]
  exact ⟨fun h => h.imp fun a s' q => (ok_bnd.mp q).imp fun b s2 q => ok_bnd.mp q, fun h => h.imp fun a s' q => ok_bnd.mpr (q.imp fun b s2 q => ok_bnd.mpr q)⟩
theorem ok_binR {op : PV → PV → M PV} {Q : PV → S → Prop} : Ok (binR ca i op) s Q ↔ Ok ca s (fun a s2 => Ok (brw i) s2 (fun b s3 => Ok (op a b) s3 Q)) := by
  unfold binR
  rw [ok_bnd]
  exact ⟨fun h => h.imp fun a s' q => ok_bnd.mp q, fun h => h.imp fun a s' q => ok_bnd.mpr q⟩
def asBK (s : S) (Q : Bool → S → Prop) : PV → Prop
  | .bl b => Q b s
  | _ => False
theorem ok_asB {Q : Bool → S → Prop} : Ok (asB ca) s Q ↔ Ok ca s (fun d s' => asBK s' Q d) := by
  unfold asB
  rw [ok_bnd]
  refine ⟨fun h => h.imp fun a s' q => ?_, fun h => h.imp fun a s' q => ?_⟩ <;> cases a <;> exact q
theorem asBK_bl {Q : Bool → S → Prop} {b : Bool} : asBK s Q (.bl b) ↔ Q b s := Iff.rfl
theorem ok_andT {a b : M Bool} {Q : Bool → S → Prop} : Ok (andT a b) s Q ↔ Ok a s (fun x s' => if x = true then Ok b s' Q else Q false s') := by
  unfold andT
  rw [ok_bnd]
  refine ⟨fun h => h.imp fun a s' q => ?_, fun h => h.imp fun a s' q => ?_⟩ <;> cases a <;> exact q
theorem ok_orT {a b : M Bool} {Q : Bool → S → Prop} : Ok (orT a b) s Q ↔ Ok a s (fun x s' => if x = true then Q true s' else Ok b s' Q) := by
  unfold orT
  rw [ok_bnd]
  refine ⟨fun h => h.imp fun a s' q => ?_, fun h => h.imp fun a s' q => ?_⟩ <;> cases a <;> exact q
theorem ok_notT {a : M Bool} {Q : Bool → S → Prop} : Ok (notT a) s Q ↔ Ok a s (fun x s' => Q (!x) s') := by
  unfold notT
  rw [ok_bnd]
  exact Iff.rfl
theorem ok_iteT {t : M Bool} {Q : PV → S → Prop} : Ok (iteT t ca cb) s Q ↔ Ok t s (fun x s' => if x = true then Ok ca s' Q else Ok cb s' Q) := by
  unfold iteT
  rw [ok_bnd]
  refine ⟨fun h => h.imp fun a s' q => ?_, fun h => h.imp fun a s' q => ?_⟩ <;> cases a <;> exact q
def blK (s : S) (Q : Bool → Prop) : PV → Prop
  | .bl b => Q b
  | _ => False
theorem blK_bl {Q : Bool → Prop} {b : Bool} : blK s Q (.bl b) ↔ Q b := Iff.rfl
theorem ok_andV {Q : PV → S → Prop} : Ok (andV ca cb) s Q ↔ Ok ca s (fun d s' => blK s' (fun x => if x = true then Ok cb s' Q else Q (.bl false) s') d) := by
  unfold andV
  rw [ok_bnd]
  refine ⟨fun h => h.imp fun a s' q => ?_, fun h => h.imp fun a s' q => ?_⟩ <;> cases a <;> first | exact q | (rename_i b; cases b <;> exact q)
theorem ok_orV {Q : PV → S → Prop} : Ok (orV ca cb) s Q ↔ Ok ca s (fun d s' => blK s' (fun x => if x = true then Q (.bl true) s' else Ok cb s' Q) d) := by
  unfold orV
  rw [ok_bnd]
  refine ⟨fun h => h.imp fun a s' q => ?_, fun h => h.imp fun a s' q => ?_⟩ <;> cases a <;> first | exact q | (rename_i b; cases b <;> exact q)
theorem ok_notV {Q : PV → S → Prop} : Ok (notV ca) s Q ↔ Ok ca s (fun d s' => blK s' (fun x => Q (.bl (!x)) s') d) := by
  unfold notV
  rw [ok_bnd]
  refine ⟨fun h => h.imp fun a s' q => ?_, fun h => h.imp fun a s' q => ?_⟩ <;> cases a <;> exact q
/-! ### arguments, displays -/
theorem ok_argN {Q : List PV → S → Prop} : Ok argN s Q ↔ Q [] s := Iff.rfl
theorem ok_argC {r : M (List PV)} {Q : List PV → S → Prop} : Ok (argC ca r) s Q ↔ Ok ca s (fun d s' => Ok r s' (fun ds s2 => Q (d :: ds) s2)) := by
  unfold argC
  rw [ok_bnd]
  exact ⟨fun h => h.imp fun a s' q => ok_bnd.mp q, fun h => h.imp fun a s' q => ok_bnd.mpr q⟩
theorem ok_fits {r : M (List PV)} {Q : List PV → S → Prop} : Ok (fits r) s Q ↔ Ok r s (fun ds s' => ds.length ≤ sizeLine ∧ Q ds s') := by
  unfold fits
  rw [ok_bnd]
  refine ⟨fun h => h.imp fun a s' q => ?_, fun h => h.imp fun a s' q => ?_⟩
  · rw [ok_ite] at q
    split at q
    · exact ⟨by assumption, q⟩
    · exact q.elim
  · rw [ok_ite, if_pos q.1]
    exact q.2
theorem ok_tupM {r : M (List PV)} {Q : PV → S → Prop} : Ok (tupM r) s Q ↔ Ok r s (fun ds s' => ds.length ≤ sizeLine ∧ Q (.tup ds) s') := by
  unfold tupM
  rw [ok_bnd, ok_fits]
  exact Iff.rfl
theorem ok_lstM {r : M (List PV)} {Q : PV → S → Prop} : Ok (lstM r) s Q ↔ Ok r s (fun ds s' => Q (.lst ds) s') := by
  unfold lstM
  rw [ok_bnd]
  exact Iff.rfl
theorem ok_parN {Q : Option Int → S → Prop} : Ok parN s Q ↔ Q none s := Iff.rfl
def intK (s : S) (Q : Int → Prop) : PV → Prop
  | .int b => Q b
  | _ => False
theorem intK_int {Q : Int → Prop} {b : Int} : intK s Q (.int b) ↔ Q b := Iff.rfl
theorem ok_parS {Q : Option Int → S → Prop} : Ok (parS ca) s Q ↔ Ok ca s (fun d s' => intK s' (fun i => Q (some i) s') d) := by
  unfold parS
  rw [ok_bnd]
  refine ⟨fun h => h.imp fun a s' q => ?_, fun h => h.imp fun a s' q => ?_⟩ <;> cases a <;> exact q
theorem ok_slM {lo hi : M (Option Int)} {Q : PV → S → Prop} : Ok (slM ca lo hi) s Q ↔ Ok ca s (fun d s1 => Ok lo s1 (fun a s2 => Ok hi s2 (fun b s3 => ∃ x, slP d a b = some x ∧ Q x s3))) := by
  unfold slM
  rw [ok_bnd]
  exact ⟨fun h => h.imp fun a s' q => (ok_bnd.mp q).imp fun b s2 q => (ok_bnd.mp q).imp fun c s3 q => ok_lft.mp q, fun h => h.imp fun a s' q => ok_bnd.mpr (q.imp fun b s2 q => ok_bnd.mpr (q.imp fun c s3 q => ok_lft.mpr q))⟩
def lstK (Q : List PV → Prop) : PV → Prop
  | .lst b => Q b
  | _ => False
theorem lstK_lst {Q : List PV → Prop} {b : List PV} : lstK Q (.lst b) ↔ Q b := Iff.rfl
theorem ok_revM {Q : PV → S → Prop} : Ok (revM ca) s Q ↔ Ok ca s (fun d s' => lstK (fun xs => Q (.lst xs.reverse) s') d) := by
  unfold revM
  rw [ok_bnd]
  refine ⟨fun h => h.imp fun a s' q => ?_, fun h => h.imp fun a s' q => ?_⟩ <;> cases a <;> exact q
def strK (Q : Str → Prop) : PV → Prop
  | .str b => Q b
  | _ => False
theorem strK_str {Q : Str → Prop} {b : Str} : strK Q (.str b) ↔ Q b := Iff.rfl
theorem ok_joinM {Q : PV → S → Prop} : Ok (joinM ca cb) s Q ↔ Ok ca s (fun d s' => strK (fun x => Ok cb s' (fun b s2 => ∃ y, joinP x b = some y ∧ Q y s2)) d) := by
  unfold joinM
  rw [ok_bnd]
  refine ⟨fun h => h.imp fun a s' q => ?_, fun h => h.imp fun a s' q => ?_⟩
  · cases a <;> first | exact q | exact (ok_bnd.mp q).imp fun b s2 q => ok_lft.mp q
  · cases a <;> first | exact q | exact ok_bnd.mpr (Ok.imp q fun b s2 q => ok_lft.mpr q)
theorem ok_itemsM {Q : List PV → S → Prop} : Ok (itemsM ca) s Q ↔ Ok ca s (fun d s' => ∃ xs, itemsP d = some xs ∧ Q xs s') := by
  unfold itemsM
  rw [ok_bnd]
  exact ⟨fun h => h.imp fun a s' q => ok_lft.mp q, fun h => h.imp fun a s' q => ok_lft.mpr q⟩
theorem ok_rngM {Q : List PV → S → Prop} : Ok (rngM ca) s Q ↔ Ok ca s (fun d s' => ∃ xs, rngP d = some xs ∧ Q xs s') := by
  unfold rngM
  rw [ok_bnd]
  exact ⟨fun h => h.imp fun a s' q => ok_lft.mp q, fun h => h.imp fun a s' q => ok_lft.mpr q⟩
/-! ### statements -/
def seqK (b : M Fl) (s : S) (Q : Fl → S → Prop) : Fl → Prop
  | .nx => Ok b s Q
  | fl => Q fl s
theorem ok_seqM {Q : Fl → S → Prop} : Ok (seqM fa fb) s Q ↔ Ok fa s (fun fl s' => seqK fb s' Q fl) := by
  unfold Ok seqM
  cases fa s with
  | ok fl s' => cases fl <;> exact Iff.rfl
  | exc => exact Iff.rfl
  | stk => exact Iff.rfl
theorem seqK_nx {Q : Fl → S → Prop} : seqK fb s Q .nx ↔ Ok fb s Q := Iff.rfl
theorem seqK_rt {Q : Fl → S → Prop} {d : PV} : seqK fb s Q (.rt d) ↔ Q (.rt d) s := Iff.rfl
theorem seqK_bk {Q : Fl → S → Prop} : seqK fb s Q .bk ↔ Q .bk s := Iff.rfl
theorem seqK_ct {Q : Fl → S → Prop} : seqK fb s Q .ct ↔ Q .ct s := Iff.rfl
theorem ok_ifM {t : M Bool} {Q : Fl → S → Prop} : Ok (ifM t fa fb) s Q ↔ Ok t s (fun x s' => if x = true then Ok fa s' Q else Ok fb s' Q) := by
  unfold ifM
  rw [ok_bnd]
  refine ⟨fun h => h.imp fun a s' q => ?_, fun h => h.imp fun a s' q => ?_⟩ <;> cases a <;> exact q
theorem ok_retM {Q : Fl → S → Prop} : Ok (retM ca) s Q ↔ Ok ca s (fun d s' => Q (.rt d) s') := by unfold retM; rw [ok_bnd]; exact Iff.rfl
theorem ok_dropM {Q : Fl → S → Prop} : Ok (dropM ca) s Q ↔ Ok ca s (fun _ s' => Q .nx s') := by unfold dropM; rw [ok_bnd]; exact Iff.rfl
theorem ok_skipM {Q : Fl → S → Prop} : Ok skipM s Q ↔ Q .nx s := Iff.rfl
theorem ok_asgM {Q : Fl → S → Prop} : Ok (asgM i ca) s Q ↔ Ok ca s (fun d s' => Q .nx ⟨s'.env.set i (some (.val d)), s'.sto⟩) := by unfold asgM; rw [ok_bnd]; exact Iff.rfl
theorem ok_asgO {r : M (List PV)} {Q : Fl → S → Prop} : Ok (asgO i r) s Q ↔ Ok r s (fun d s' => Q .nx ⟨s'.env.set i (some (.own d)), s'.sto⟩) := by unfold asgO; rw [ok_bnd]; exact Iff.rfl
theorem ok_par2 {Q : Fl → S → Prop} : Ok (par2 i j ca cb) s Q ↔ Ok ca s (fun a s1 => Ok cb s1 (fun b s2 => Q .nx ⟨(s2.env.set i (some (.val a))).set j (some (.val b)), s2.sto⟩)) := by
  unfold par2
  rw [ok_bnd]
  exact ⟨fun h => h.imp fun a s' q => ok_bnd.mp q, fun h => h.imp fun a s' q => ok_bnd.mpr q⟩
theorem ok_par2VO {r : M (List PV)} {Q : Fl → S → Prop} : Ok (par2VO i j ca r) s Q ↔ Ok ca s (fun a s1 => Ok r s1 (fun b s2 => Q .nx ⟨(s2.env.set i (some (.val a))).set j (some (.own b)), s2.sto⟩)) := by
  unfold par2VO
  rw [ok_bnd]
  exact ⟨fun h => h.imp fun a s' q => ok_bnd.mp q, fun h => h.imp fun a s' q => ok_bnd.mpr q⟩
theorem ok_par2OO {r0 r : M (List PV)} {Q : Fl → S → Prop} : Ok (par2OO i j r0 r) s Q ↔ Ok r0 s (fun a s1 => Ok r s1 (fun b s2 => Q .nx ⟨(s2.env.set i (some (.own a))).set j (some (.own b)), s2.sto⟩)) := by
  unfold par2OO
  rw [ok_bnd]
  exact ⟨fun h => h.imp fun a s' q => ok_bnd.mp q, fun h => h.imp fun a s' q => ok_bnd.mpr q⟩
theorem ok_par3 {Q : Fl → S → Prop} : Ok (par3 i j k ca cb cd) s Q ↔ Ok ca s (fun a s1 => Ok cb s1 (fun b s2 => Ok cd s2 (fun d s3 => Q .nx ⟨((s3.env.set i (some (.val a))).set j (some (.val b))).set k (some (.val d)), s3.sto⟩))) := by
  unfold par3
  rw [ok_bnd]
  exact ⟨fun h => h.imp fun a s' q => (ok_bnd.mp q).imp fun b s2 q => ok_bnd.mp q, fun h => h.imp fun a s' q => ok_bnd.mpr (q.imp fun b s2 q => ok_bnd.mpr q)⟩
theorem ok_unpM2 {Q : Fl → S → Prop} {a b : PV} (h : Ok ca s (fun d s' => d = .tup [a, b] ∧ Q .nx ⟨(s'.env.set i (some (.val a))).set j (some (.val b)), s'.sto⟩)) : Ok (unpM [i, j] ca) s Q := by
  unfold unpM
  rw [ok_bnd]
  refine h.imp fun d s' q => ?_
  rw [q.1]
  exact q.2
/-! ### calls, functions -/
def OkF (r : RR) (Q : PV → List MO → Prop) : Prop := match r with
  | .ok d st => Q d st
  | .exc _ _ => False
  | .stk => False
theorem OkF.ex {r : RR} {Q : PV → List MO → Prop} (h : OkF r Q) : ∃ d st, r = .ok d st ∧ Q d st := by
  cases r with
  | ok d st => exact ⟨d, st, rfl, h⟩
  | exc => exact h.elim
  | stk => exact h.elim
theorem OkF.imp {r : RR} {Q Q' : PV → List MO → Prop} (h : OkF r Q) (f : ∀ d st, Q d st → Q' d st) : OkF r Q' := by
  cases r with
  | ok d st => exact f d st h
  | exc => exact h
  | stk => exact h
theorem ok_callM {m : Fn} {n : Nat} {r : M (List PV)} {Q : PV → S → Prop} : Ok (callM m n r) s Q ↔ Ok r s (fun ds s' => OkF (m n ds s'.sto) (fun d st => Q d ⟨s'.env, st⟩)) := by
  unfold callM
  rw [ok_bnd]
  have key : ∀ (ds : List PV) (s' : S), Ok (fun s : S => match m n ds s.sto with
      | .ok d st' => Res.ok d { s with sto := st' }
      | .exc e st' => .exc e { s with sto := st' }
      | .stk => .stk) s' Q ↔ OkF (m n ds s'.sto) (fun d st => Q d ⟨s'.env, st⟩) := fun ds s' => by
    unfold Ok OkF
    dsimp only
    cases m n ds s'.sto <;> exact Iff.rfl
  exact ⟨fun h => h.imp fun ds s' q => (key ds s').mp q, fun h => h.imp fun ds s' q => (key ds s').mpr q⟩
def rtK (Q : PV → List MO → Prop) (s : S) : Fl → Prop
  | .rt d => Q d s.sto
  | .nx => Q .non s.sto
  | _ => False
theorem rtK_rt {Q : PV → List MO → Prop} {d : PV} : rtK Q s (.rt d) ↔ Q d s.sto := Iff.rfl
theorem rtK_nx {Q : PV → List MO → Prop} : rtK Q s .nx ↔ Q .non s.sto := Iff.rfl
theorem okF_fn {np nn n : Nat} {body : Nat → M Fl} {ds : List PV} {st : List MO} {Q : PV → List MO → Prop} (hl : ds.length = np)
    (h : Ok (body n) ⟨ds.map (fun d => some (SV.val d)) ++ List.replicate (nn - np) none, st⟩ (fun fl s => rtK Q s fl)) : OkF (fnM np nn body n ds st) Q := by
  unfold fnM
  rw [if_pos hl]
  obtain ⟨fl, s', e, q⟩ := h.ex
  rw [e]
  cases fl <;> exact q
/-! ### handles -/
theorem ok_hgetP {n : Nat} {key : Str} {kvs : List (L2.Key × PV)} {d : PV} {Q : PV → S → Prop} (h1 : s.sto[n]? = some (.dic kvs)) (h2 : valP kvs (.inr key) = some d) : Ok (hgetP (.hnd n) (.str key)) s Q ↔ Q d s := by
  unfold Ok hgetP
  simp only [h1, h2]
def getK (s : S) (Q : PV → S → Prop) : Option PV → Prop
  | some d => Q d s
  | none => False
theorem getK_some {Q : PV → S → Prop} {d : PV} : getK s Q (some d) ↔ Q d s := Iff.rfl
theorem ok_hget0 {key : Str} {kvs : List (L2.Key × PV)} {Q : PV → S → Prop} : Ok (hgetP (.hnd 0) (.str key)) ⟨env, .dic kvs :: st⟩ Q ↔ getK ⟨env, .dic kvs :: st⟩ Q (valP kvs (.inr key)) := by
  unfold Ok hgetP getK
  simp only [List.getElem?_cons_zero]
  cases valP kvs (.inr key) <;> exact Iff.rfl
def putK (v : PV) (Q : Fl → S → Prop) (s : S) (a b : PV) : Prop := match a, b with
  | .hnd n, .str k => match s.sto[n]? with
    | some (.dic kvs) => kvs.length < sizeLine ∧ Q .nx ⟨s.env, s.sto.set n (.dic (putP kvs (.inr k) v))⟩
    | none => False
  | _, _ => False
theorem ok_hputM {cd ck cv : M PV} {Q : Fl → S → Prop} : Ok (hputM cd ck cv) s Q ↔ Ok cv s (fun v s1 => Ok cd s1 (fun a s2 => Ok ck s2 (fun b s3 => putK v Q s3 a b))) := by
  unfold hputM
  rw [ok_bnd]
  have key : ∀ (v a b : PV) (s : S), Ok (fun s : S => match a, b with
      | .hnd n, .str k => match s.sto[n]? with
        | some (.dic kvs) => if kvs.length < sizeLine then Res.ok Fl.nx { s with sto := s.sto.set n (.dic (putP kvs (.inr k) v)) } else .stk
        | none => .stk
      | _, _ => .stk) s Q ↔ putK v Q s a b := fun v a b s => by
    unfold Ok putK
    dsimp only
    cases a <;> cases b <;> try exact Iff.rfl
    rename_i n x
    dsimp only
    cases s.sto[n]? with
    | none => exact Iff.rfl
    | some mo =>
      cases mo with
      | dic kvs =>
        dsimp only
        by_cases h : kvs.length < sizeLine
        · simp [h]
        · simp [h]
  exact ⟨fun h => h.imp fun v s1 q => (ok_bnd.mp q).imp fun a s2 q => (ok_bnd.mp q).imp fun b s3 q => (key v a b s3).mp q,
    fun h => h.imp fun v s1 q => ok_bnd.mpr (q.imp fun a s2 q => ok_bnd.mpr (q.imp fun b s3 q => (key v a b s3).mpr q))⟩
theorem putK0 {key : Str} {v : PV} {kvs : List (L2.Key × PV)} {Q : Fl → S → Prop} : putK v Q ⟨env, .dic kvs :: st⟩ (.hnd 0) (.str key) ↔ kvs.length < sizeLine ∧ Q .nx ⟨env, .dic (putP kvs (.inr key) v) :: st⟩ := Iff.rfl
/-! ### loops -/
def flK (Q : Fl → S → Prop) (N : S → Prop) (s : S) : Fl → Prop
  | .nx => N s
  | .ct => N s
  | .bk => Q .nx s
  | .rt d => Q (.rt d) s
theorem ok_for {body : M Fl} {xs : List PV} {Q : Fl → S → Prop} (I : Nat → S → Prop) (h0 : I 0 s) (hs : ∀ (k : Nat) (x : PV) (s : S), xs[k]? = some x → I k s → Ok body ⟨s.env.set i (some (.val x)), s.sto⟩ (fun fl s' => flK Q (I (k + 1)) s' fl)) (hd : ∀ s, I xs.length s → Q .nx s) : Ok (forM i body xs) s Q := by
  have key : ∀ (ys : List PV) (k : Nat) (s : S), xs.drop k = ys → k + ys.length = xs.length → I k s → Ok (forM i body ys) s Q := by
    intro ys
    induction ys with
    | nil =>
      intro k s e hl hI
      have hk : k = xs.length := by simpa using hl
      subst hk
      exact hd s hI
    | cons y ys ih =>
      intro k s e hl hI
      have hk : k < xs.length := by simp at hl; omega
      have e' := List.drop_eq_getElem_cons hk
      rw [e] at e'
      obtain ⟨e1, e2⟩ := List.cons.inj e'
      have hg : xs[k]? = some y := by rw [e1]; exact List.getElem?_eq_getElem hk
      have hb := hs k y s hg hI
      obtain ⟨fl, s', eb, q⟩ := hb.ex
      unfold Ok forM
      have eb : body { s with env := s.env.set i (some (.val y)) } = .ok fl s' := eb
      cases fl with
      | nx => simp only [eb]; exact ih (k + 1) s' e2.symm (by simp at hl; omega) q
      | ct => simp only [eb]; exact ih (k + 1) s' e2.symm (by simp at hl; omega) q
      | bk => simp only [eb]; exact q
      | rt d => simp only [eb]; exact q
  exact key xs 0 s rfl (by simp) h0
theorem ok_loopM {r : M (List PV)} {Q : Fl → S → Prop} : Ok (loopM r i fa) s Q ↔ Ok r s (fun xs s' => Ok (forM i fa xs) s' Q) := by unfold loopM; exact ok_bnd
/-- a while, by a measure -/
theorem ok_while {t : M Bool} {body : M Fl} {Q : Fl → S → Prop} (I : Nat → S → Prop) {n m : Nat} (h0 : I m s) (hmn : m < n)
    (hs : ∀ (m : Nat) (s : S), I m s → Ok t s (fun x s' => if x = true then Ok body s' (fun fl s2 => flK Q (fun s3 => ∃ m', m' < m ∧ I m' s3) s2 fl) else Q .nx s')) : Ok (whM t body n) s Q := by
  induction n generalizing m s with
  | zero => omega
  | succ n ih =>
    unfold whM
    rw [ok_bnd]
    refine (hs m s h0).imp fun x s1 q => ?_
    cases x with
    | false => exact q
    | true =>
      simp only [if_true] at q ⊢
      obtain ⟨fl, s2, eb, q⟩ := Ok.ex q
      unfold Ok
      cases fl with
      | nx =>
        simp only [eb]
        obtain ⟨m', hm', hI⟩ := q
        exact ih hI (by omega)
      | ct =>
        simp only [eb]
        obtain ⟨m', hm', hI⟩ := q
        exact ih hI (by omega)
      | bk => simp only [eb]; exact q
      | rt d => simp only [eb]; exact q
/-! ### comprehensions -/
theorem ok_lcM {r : M (List PV)} {vs : List Nat} {cond : M Bool} {Q : List PV → S → Prop} : Ok (lcM r i vs cond ca) s Q ↔ Ok r s (fun xs s' => Ok (lcGo i vs cond ca xs []) ⟨wip s'.env vs, s'.sto⟩ Q) := by unfold lcM; exact ok_bnd
/-- by an invariant over the turn, what is made, the state -/
theorem ok_lcGo {vs : List Nat} {cond : M Bool} {elt : M PV} {xs : List PV} {Q : List PV → S → Prop} (I : Nat → List PV → S → Prop) (h0 : I 0 [] s)
    (hs : ∀ (k : Nat) (x : PV) (acc : List PV) (s : S), xs[k]? = some x → I k acc s → Ok cond ⟨s.env.set i (some (.val x)), s.sto⟩ (fun b s1 => if b = true then Ok elt s1 (fun y s2 => acc.length < sizeLine ∧ I (k + 1) (acc ++ [y]) ⟨wip s2.env vs, s2.sto⟩) else I (k + 1) acc ⟨wip s1.env vs, s1.sto⟩))
    (hd : ∀ acc s, I xs.length acc s → Q acc s) : Ok (lcGo i vs cond elt xs []) s Q := by
  have key : ∀ (ys : List PV) (k : Nat) (acc : List PV) (s : S), xs.drop k = ys → k + ys.length = xs.length → I k acc s → Ok (lcGo i vs cond elt ys acc) s Q := by
    intro ys
    induction ys with
    | nil =>
      intro k acc s e hl hI
      have hk : k = xs.length := by simpa using hl
      subst hk
      exact hd acc s hI
    | cons y ys ih =>
      intro k acc s e hl hI
      have hk : k < xs.length := by simp at hl; omega
      have e' := List.drop_eq_getElem_cons hk
      rw [e] at e'
      obtain ⟨e1, e2⟩ := List.cons.inj e'
      have hg : xs[k]? = some y := by rw [e1]; exact List.getElem?_eq_getElem hk
      obtain ⟨b, s1, ec, q⟩ := (hs k y acc s hg hI).ex
      have ec : cond { s with env := s.env.set i (some (.val y)) } = .ok b s1 := ec
      unfold Ok lcGo
      cases b with
      | false =>
        simp only [ec]
        exact ih (k + 1) acc _ e2.symm (by simp at hl; omega) q
      | true =>
        simp only [if_true] at q
        obtain ⟨z, s2, ee, q1, q2⟩ := Ok.ex q
        simp only [ec, ee, q1, if_true]
        exact ih (k + 1) (acc ++ [z]) _ e2.symm (by simp at hl; omega) q2
  exact key xs 0 [] s rfl (by simp) h0
/-- a block that changes nothing: filter and map -/
theorem ok_lcPure {vs : List Nat} {cond : M Bool} {elt : M PV} {xs : List PV} {Q : List PV → S → Prop} (p : PV → Bool) (f : PV → PV) (hw : wip s.env vs = s.env) (hi : i ∈ vs) (hl : xs.length ≤ sizeLine)
    (hc : ∀ x ∈ xs, cond ⟨s.env.set i (some (.val x)), s.sto⟩ = .ok (p x) ⟨s.env.set i (some (.val x)), s.sto⟩)
    (he : ∀ x ∈ xs, p x = true → elt ⟨s.env.set i (some (.val x)), s.sto⟩ = .ok (f x) ⟨s.env.set i (some (.val x)), s.sto⟩) (hd : Q ((xs.filter p).map f) s) : Ok (lcGo i vs cond elt xs []) s Q := by
  have hback : ∀ x : PV, wip (s.env.set i (some (.val x))) vs = s.env := by
    intro x
    rw [← hw]
    have : ∀ (vs : List Nat) (e : Env), i ∈ vs → wip (e.set i (some (.val x))) vs = wip e vs := by
      intro vs
      induction vs with
      | nil => intro e h; cases h
      | cons v vs ih =>
        intro e h
        unfold wip
        by_cases hv : v = i
        · subst hv
          by_cases hm : v ∈ vs
          · rw [ih e hm]
          · have out : ∀ (ws : List Nat) (e : Env), v ∉ ws → wip (e.set v (some (.val x))) ws = (wip e ws).set v (some (.val x)) := by
              intro ws
              induction ws with
              | nil => intro e _; rfl
              | cons w ws ih2 =>
                intro e hn
                unfold wip
                rw [ih2 e (fun m => hn (List.mem_cons_of_mem _ m)), List.set_comm _ _ (fun z => hn (by rw [z]; exact List.mem_cons_self))]
            rw [out vs e hm, List.set_set]
        · rw [ih e ((List.mem_cons.mp h).resolve_left fun z => hv z.symm)]
    rw [this vs _ hi]
    rw [hw, hw]
  refine ok_lcGo (fun k acc s' => s' = s ∧ acc = ((xs.take k).filter p).map f) ⟨rfl, by simp⟩ ?_ ?_
  · rintro k x acc s' hx ⟨rfl, rfl⟩
    have hm : x ∈ xs := List.mem_of_getElem? hx
    have hk : k < xs.length := (List.getElem?_eq_some_iff.mp hx).1
    have ht : xs.take (k + 1) = xs.take k ++ [x] := by
      rw [List.take_succ, hx]
      rfl
    refine Ok.of (hc x hm) ?_
    cases hp : p x with
    | true =>
      simp only [if_true]
      refine Ok.of (he x hm hp) ⟨?_, by simp only [hback], ?_⟩
      · refine Nat.lt_of_lt_of_le ?_ hl
        rw [List.length_map]
        exact Nat.lt_of_le_of_lt (List.length_filter_le _ _) (by rw [List.length_take]; omega)
      · rw [ht, List.filter_append, List.map_append, List.filter_cons, hp]
        rfl
    | false =>
      simp only [Bool.false_eq_true, if_false]
      refine ⟨by simp only [hback], ?_⟩
      rw [ht, List.filter_append, List.map_append, List.filter_cons, hp]
      simp
  · rintro acc s' ⟨rfl, rfl⟩
    rw [List.take_length]
    exact hd
end
end Dn
/-! Pl2: the operators' answers, a pen. -/
namespace Dn
open PySem

section
variable {s : S} {Q : PV → S → Prop} {QL : List PV → S → Prop} {a b : Int} {x y : Str} {xs ys : List PV}
theorem cmul_of (ha : a.natAbs < 2 ^ 200) (hb : b.natAbs < 2 ^ 200) : L2.CMulW a b := L2.wide_mul ha hb (by decide) (by decide) (by decide)
theorem cmul100 (ha : -1267650600228229401496703205376 ≤ a ∧ a ≤ 1267650600228229401496703205376) (hb : -1267650600228229401496703205376 ≤ b ∧ b ≤ 1267650600228229401496703205376) : L2.CMulW a b :=
  cmul_of (Nat.lt_of_le_of_lt (show a.natAbs ≤ 1267650600228229401496703205376 by omega) (by decide)) (Nat.lt_of_le_of_lt (show b.natAbs ≤ 1267650600228229401496703205376 by omega) (by decide))
theorem log_lt {n p : Nat} (h : n < 2 ^ p) (hp : 0 < p) : n.log2 < p := by
  by_cases h0 : n = 0
  · subst h0
    simpa using hp
  · exact (Nat.log2_lt h0).mpr h
theorem cdiv100 (h0 : 0 < b) (hb : b ≤ 1267650600228229401496703205376) : L2.CDivW a b := ⟨h0, Nat.lt_of_lt_of_le (log_lt (p := 200) (Nat.lt_of_le_of_lt (show b.natAbs ≤ 1267650600228229401496703205376 by omega) (by decide)) (by decide)) (by decide)⟩
theorem opt_if {c : Prop} [Decidable c] {d : PV} {R : PV → Prop} : (∃ a, (if c then some d else none) = some a ∧ R a) ↔ c ∧ R d := by
  by_cases h : c
  · simp only [if_pos h, h, true_and]; simp
  · simp only [if_neg h, h, false_and]; simp
theorem ok_add : Ok (lft (addP (.int a) (.int b))) s Q ↔ Q (.int (a + b)) s := Iff.rfl
theorem ok_addS : Ok (lft (addP (.str x) (.str y))) s Q ↔ x.length + y.length ≤ sizeLine ∧ Q (.str (x ++ y)) s := by
  exact ok_lft.trans opt_if
theorem ok_addT : Ok (lft (addP (.tup xs) (.tup ys))) s Q ↔ xs.length + ys.length ≤ sizeLine ∧ Q (.tup (xs ++ ys)) s := by
  exact ok_lft.trans opt_if
theorem ok_addL : Ok (lft (addP (.lst xs) (.lst ys))) s Q ↔ xs.length + ys.length ≤ sizeLine ∧ Q (.lst (xs ++ ys)) s := by
  exact ok_lft.trans opt_if
theorem ok_sub : Ok (lft (subP (.int a) (.int b))) s Q ↔ Q (.int (a - b)) s := Iff.rfl
theorem ok_mul : Ok (lft (mulP (.int a) (.int b))) s Q ↔ L2.CMulW a b ∧ Q (.int (a * b)) s := by
  exact ok_lft.trans opt_if
theorem ok_div : Ok (lft (fdivP (.int a) (.int b))) s Q ↔ L2.CDivW a b ∧ Q (.int (a / b)) s := by
  exact ok_lft.trans opt_if
theorem ok_mod : Ok (lft (modP (.int a) (.int b))) s Q ↔ 0 < b ∧ Q (.int (a % b)) s := by
  exact ok_lft.trans opt_if
theorem ok_pow : Ok (lft (powP (.int a) (.int b))) s Q ↔ L2.CPow a b ∧ Q (.int (a ^ b.toNat)) s := by
  exact ok_lft.trans opt_if
theorem ok_rep {k : Int} : Ok (lft (mulP (.lst xs) (.int k))) s Q ↔ ((-(2 ^ 63) ≤ k ∧ k < 2 ^ 63) ∧ xs.length * k.toNat ≤ sizeLine) ∧ Q (.lst (List.replicate k.toNat xs).flatten) s := by
  exact ok_lft.trans opt_if
theorem ok_ord {f : Int → Int → Bool} : Ok (lft (ordP f (.int a) (.int b))) s Q ↔ Q (.bl (f a b)) s := Iff.rfl
theorem ok_fInt : Ok (lft (intP (.int a))) s Q ↔ Q (.int a) s := Iff.rfl
theorem ok_fAbs : Ok (lft (absP (.int a))) s Q ↔ Q (.int (if a < 0 then -a else a)) s := Iff.rfl
theorem ok_fNeg : Ok (lft (negP (.int a))) s Q ↔ Q (.int (-a)) s := Iff.rfl
theorem ok_lenL : Ok (lft (lenP (.lst xs))) s Q ↔ Q (.int xs.length) s := Iff.rfl
theorem ok_lenT : Ok (lft (lenP (.tup xs))) s Q ↔ Q (.int xs.length) s := Iff.rfl
theorem ok_lenS : Ok (lft (lenP (.str x))) s Q ↔ x.length ≤ sizeLine ∧ Q (.int x.length) s := by
  exact ok_lft.trans opt_if
theorem ok_fListL : Ok (lft (listP (.lst xs))) s QL ↔ QL xs s := Iff.rfl
theorem ok_fListT : Ok (lft (listP (.tup xs))) s QL ↔ QL xs s := Iff.rfl
theorem ok_fTupleL : Ok (lft (tupleP (.lst xs))) s Q ↔ Q (.tup xs) s := Iff.rfl
theorem ok_fTupleT : Ok (lft (tupleP (.tup xs))) s Q ↔ Q (.tup xs) s := Iff.rfl
theorem eqP_data {neg : Bool} {v w : PV} {d e : PyData} (hv : v.toD = some d) (hw : w.toD = some e) (h1 : SeqAt.shaped d = true) (h2 : SeqAt.shaped e = true) : eqP neg v w = some (.bl (if neg then !PyData.eqv d e else PyData.eqv d e)) := by
  unfold eqP
  split
  · rw [PV.toD] at hv hw
    cases hv
    cases hw
    simp [PyData.eqv]
  · simp [hv, hw, h1, h2]
theorem ok_eqD {neg : Bool} {v w : PV} {d e : PyData} (hv : v.toD = some d) (hw : w.toD = some e) (h1 : SeqAt.shaped d = true) (h2 : SeqAt.shaped e = true) : Ok (lft (eqP neg v w)) s Q ↔ Q (.bl (if neg then !PyData.eqv d e else PyData.eqv d e)) s := by
  rw [ok_lft, eqP_data hv hw h1 h2]
  simp
theorem shaped_int {i : Int} : SeqAt.shaped (PyData.int i) = true := by unfold SeqAt.shaped; simp [PyData.canLay0, PyData.depth]
theorem shaped_bool {i : Bool} : SeqAt.shaped (PyData.bool i) = true := by unfold SeqAt.shaped; simp [PyData.canLay0, PyData.depth]
theorem ok_eqI {neg : Bool} : Ok (lft (eqP neg (.int a) (.int b))) s Q ↔ Q (.bl (if neg then !(a == b) else a == b)) s := by
  have e : PyData.eqv (.int a) (.int b) = (a == b) := by simp [PyData.eqv]
  rw [ok_eqD (d := .int a) (e := .int b) (by rw [PV.toD]) (by rw [PV.toD]) shaped_int shaped_int, e]
theorem ok_eqS {neg : Bool} : Ok (lft (eqP neg (.str x) (.str y))) s Q ↔ Q (.bl (if neg then !(x == y) else x == y)) s := by
  rw [ok_lft]
  unfold eqP
  simp
theorem ok_eqB {neg : Bool} {a b : Bool} : Ok (lft (eqP neg (.bl a) (.bl b))) s Q ↔ Q (.bl (if neg then !(a == b) else a == b)) s := by
  have e : PyData.eqv (.bool a) (.bool b) = (a == b) := by simp [PyData.eqv]
  rw [ok_eqD (d := .bool a) (e := .bool b) (by rw [PV.toD]) (by rw [PV.toD]) shaped_bool shaped_bool, e]
/-- xs == [] -/
theorem ok_eqNil {neg : Bool} {ds : List PyData} (h : PV.toDs xs = some ds) (hs : SeqAt.shaped (.list ds) = true) : Ok (lft (eqP neg (.lst xs) (.lst []))) s Q ↔ Q (.bl (if neg then !xs.isEmpty else xs.isEmpty)) s := by
  have e1 : (PV.lst xs).toD = some (.list ds) := by rw [PV.toD, h]; rfl
  have e2 : (PV.lst []).toD = some (.list []) := by rw [PV.toD, PV.toDs]; rfl
  have e3 : SeqAt.shaped (.list []) = true := by decide +kernel
  have e4 : PyData.eqv (.list ds) (.list []) = xs.isEmpty := by
    rw [PyData.eqv]
    cases xs with
    | nil => rw [PV.toDs] at h; cases h; rw [PyData.eqvAll]; rfl
    | cons z r =>
      rw [PV.toDs] at h
      split at h
      · cases h; rw [PyData.eqvAll]; rfl
      · cases h
  rw [ok_eqD e1 e2 hs e3, e4]
theorem toDs_ints (ns : List Int) : PV.toDs (ns.map PV.int) = some (ns.map PyData.int) := by
  induction ns with
  | nil => rw [List.map_nil, PV.toDs]; rfl
  | cons n r ih => rw [List.map_cons, PV.toDs, ih, PV.toD]; rfl
theorem toDs_strs (ns : List Str) : PV.toDs (ns.map PV.str) = some (ns.map PyData.str) := by
  induction ns with
  | nil => rw [List.map_nil, PV.toDs]; rfl
  | cons n r ih => rw [List.map_cons, PV.toDs, ih, PV.toD]; rfl
theorem canLay_ints (ns : List Int) : PyData.canLayAll0 (ns.map PyData.int) = true := by
  induction ns with
  | nil => rfl
  | cons n r ih => rw [List.map_cons, PyData.canLayAll0, ih, PyData.canLay0]; rfl
theorem canLay_strs (ns : List Str) (h : ∀ x ∈ ns, PyData.strOk x = true) : PyData.canLayAll0 (ns.map PyData.str) = true := by
  induction ns with
  | nil => rfl
  | cons n r ih => rw [List.map_cons, PyData.canLayAll0, ih (fun x hx => h x (List.mem_cons_of_mem _ hx)), PyData.canLay0, h n List.mem_cons_self]; rfl
theorem depth_ints (ns : List Int) : PyData.depthAll (ns.map PyData.int) ≤ 1 := by
  induction ns with
  | nil => decide
  | cons n r ih =>
    rw [List.map_cons, PyData.depthAll, PyData.depth]
    omega
theorem depth_strs (ns : List Str) : PyData.depthAll (ns.map PyData.str) ≤ 1 := by
  induction ns with
  | nil => decide
  | cons n r ih =>
    rw [List.map_cons, PyData.depthAll, PyData.depth]
    omega
theorem shaped_list {ds : List PyData} (h1 : PyData.canLayAll0 ds = true) (h2 : PyData.depthAll ds ≤ 60) : SeqAt.shaped (.list ds) = true := by
  unfold SeqAt.shaped
  rw [PyData.canLay0, PyData.depth, h1]
  simp
  omega
theorem shaped_tuple {ds : List PyData} (h1 : PyData.canLayAll0 ds = true) (h2 : PyData.depthAll ds ≤ 60) : SeqAt.shaped (.tuple ds) = true := by
  unfold SeqAt.shaped
  rw [PyData.canLay0, PyData.depth, h1]
  simp
  omega
theorem shaped_ints (ns : List Int) : SeqAt.shaped (.list (ns.map PyData.int)) = true := shaped_list (canLay_ints ns) (Nat.le_trans (depth_ints ns) (by decide))
theorem ok_prsN {QK : List (L2.Key × PV) → S → Prop} : Ok (prsM []) s QK ↔ QK [] s := Iff.rfl
theorem ok_prsC {k : Str} {c : M PV} {r : List (Str × M PV)} {QK : List (L2.Key × PV) → S → Prop} : Ok (prsM ((k, c) :: r)) s QK ↔ Ok c s (fun d s' => Ok (prsM r) s' (fun ds s2 => QK ((.inr k, d) :: ds) s2)) := by
  show Ok (bnd c fun d => bnd (prsM r) fun ds => ret ((.inr k, d) :: ds)) s QK ↔ _
  rw [ok_bnd]
  exact ⟨fun h => h.imp fun a s' q => ok_bnd.mp q, fun h => h.imp fun a s' q => ok_bnd.mpr q⟩
theorem ok_dispM {kcs : List (Str × M PV)} : Ok (dispM kcs) s Q ↔ Ok (prsM kcs) s (fun kvs s' => kvs.length ≤ 15 ∧ Q (.hnd s'.sto.length) ⟨s'.env, s'.sto ++ [.dic (mergeP [] kvs)]⟩) := by
  unfold dispM
  rw [ok_bnd]
  have key : ∀ (kvs : List (L2.Key × PV)) (s' : S), Ok (fun s : S => if kvs.length ≤ 15 then Res.ok (PV.hnd s.sto.length) { s with sto := s.sto ++ [.dic (mergeP [] kvs)] } else .stk) s' Q ↔ (kvs.length ≤ 15 ∧ Q (.hnd s'.sto.length) ⟨s'.env, s'.sto ++ [.dic (mergeP [] kvs)]⟩) := fun kvs s' => by
    unfold Ok
    by_cases h : kvs.length ≤ 15
    · simp [h]
    · simp [h]
  exact ⟨fun h => h.imp fun a s' q => (key a s').mp q, fun h => h.imp fun a s' q => (key a s').mpr q⟩
end

/-! ### a pen: the script's cells, how many were begun, what is left -/
section
variable {kc kb kl : Str} {cells : List Int} {b l v : Int}
def penD (kc kb kl : Str) (cells : List Int) (b l : Int) : List (L2.Key × PV) := [(.inr kc, .lst (cells.map .int)), (.inr kb, .int b), (.inr kl, .int l)]
structure Keys3 (kc kb kl : Str) : Prop where
  cb : kc ≠ kb
  cl : kc ≠ kl
  bl : kb ≠ kl
theorem inr_ne {x y : Str} (h : x ≠ y) : (Sum.inr x : L2.Key) ≠ Sum.inr y := fun e => h (Sum.inr.inj e)
theorem pen_c : valP (penD kc kb kl cells b l) (.inr kc) = some (.lst (cells.map .int)) := by
  unfold valP penD
  simp
theorem pen_b (h : Keys3 kc kb kl) : valP (penD kc kb kl cells b l) (.inr kb) = some (.int b) := by
  unfold valP penD
  simp [List.find?_cons, h.cb]
theorem pen_l (h : Keys3 kc kb kl) : valP (penD kc kb kl cells b l) (.inr kl) = some (.int l) := by
  unfold valP penD
  simp [List.find?_cons, h.cl, h.bl]
theorem pen_put_b (h : Keys3 kc kb kl) : putP (penD kc kb kl cells b l) (.inr kb) (.int v) = penD kc kb kl cells v l := by
  unfold putP penD
  simp [h.cb, h.bl.symm]
theorem pen_put_l (h : Keys3 kc kb kl) : putP (penD kc kb kl cells b l) (.inr kl) (.int v) = penD kc kb kl cells b v := by
  unfold putP penD
  simp [h.cl, h.bl]
theorem pen_new (h : Keys3 kc kb kl) : mergeP [] [(.inr kc, .lst (cells.map .int)), (.inr kb, .int b), (.inr kl, .int l)] = penD kc kb kl cells b l := by
  unfold mergeP putP penD
  simp [h.cb, h.cl, h.bl]
end
end Dn
/-! Pl3: more answers: subscripts, unpacking, sorting, membership, blocks that answer somehow. -/
namespace Dn
open PySem

section
variable {s : S} {Q : PV → S → Prop} {QL : List PV → S → Prop} {QF : Fl → S → Prop} {a b : Int} {x y : Str} {xs ys : List PV} {i j : Nat} {ca : M PV}
theorem ok_ixL {k : Int} : Ok (lft (ixP (.lst xs) (.int k))) s Q ↔ ∃ v, L2.atI xs k = some v ∧ Q v s := ok_lft
theorem ok_ixT {k : Int} : Ok (lft (ixP (.tup xs) (.int k))) s Q ↔ ∃ v, L2.atI xs k = some v ∧ Q v s := ok_lft
theorem ok_ixS {k : Int} (hx : x.length ≤ sizeLine) : Ok (lft (ixP (.str x) (.int k))) s Q ↔ ∃ c, L2.atI x.cps.toList k = some c ∧ Q (.str ⟨#[c]⟩) s := by
  rw [ok_lft]
  simp only [ixP, if_pos hx]
  constructor
  · rintro ⟨v, h1, h2⟩
    obtain ⟨c, e, rfl⟩ := Option.map_eq_some_iff.mp h1
    exact ⟨c, e, h2⟩
  · rintro ⟨c, e, h2⟩
    exact ⟨_, by rw [e]; rfl, h2⟩
theorem atI_in {α : Type} {ds : List α} {k : Int} (h0 : 0 ≤ k) (h1 : k < ds.length) : ∃ v, L2.atI ds k = some v ∧ v ∈ ds := by
  obtain ⟨m, rfl⟩ := Int.eq_ofNat_of_zero_le h0
  have hm : m < ds.length := by simpa using h1
  exact ⟨ds[m], L2.atI_nat (List.getElem?_eq_getElem hm), List.getElem_mem hm⟩
theorem atI_last {α : Type} {ds : List α} (h1 : ds ≠ []) : ∃ v, L2.atI ds (-1) = some v ∧ v ∈ ds := by
  have hl : 0 < ds.length := by cases ds with | nil => exact (h1 rfl).elim | cons => simp
  refine ⟨ds[ds.length - 1]'(by omega), ?_, List.getElem_mem _⟩
  unfold L2.atI
  have : L2.ixN ds.length (-1) = some (ds.length - 1) := by
    unfold L2.ixN
    simp
    omega
  rw [this]
  exact List.getElem?_eq_getElem (by omega)
def unpK (is : List Nat) (s : S) (Q : Fl → S → Prop) : PV → Prop
  | .tup xs => xs.length = is.length ∧ Ok (setAll is xs) s Q
  | _ => False
theorem ok_unp {is : List Nat} : Ok (unpM is ca) s QF ↔ Ok ca s (fun d s' => unpK is s' QF d) := by
  unfold unpM
  rw [ok_bnd]
  refine ⟨fun h => h.imp fun a s' q => ?_, fun h => h.imp fun a s' q => ?_⟩ <;> cases a <;> try exact q
  · rename_i zs
    by_cases hl : zs.length = is.length
    · have q : Ok (if zs.length = is.length then setAll is zs else stuck) s' QF := q
      rw [if_pos hl] at q
      exact ⟨hl, q⟩
    · have q : Ok (if zs.length = is.length then setAll is zs else stuck) s' QF := q
      rw [if_neg hl] at q
      exact q.elim
  · rename_i zs
    show Ok (if zs.length = is.length then setAll is zs else stuck) s' QF
    rw [if_pos q.1]
    exact q.2
theorem unpK_tup {is : List Nat} : unpK is s QF (.tup xs) ↔ xs.length = is.length ∧ Ok (setAll is xs) s QF := Iff.rfl
theorem ok_set0 : Ok (setAll [] []) s QF ↔ QF .nx s := Iff.rfl
theorem ok_setC {is : List Nat} {d : PV} {env : Env} {st : List MO} : Ok (setAll (i :: is) (d :: xs)) ⟨env, st⟩ QF ↔ Ok (setAll is xs) ⟨env.set i (some (.val d)), st⟩ QF := by
  show Ok (bnd (setV i d) fun _ => setAll is xs) ⟨env, st⟩ QF ↔ _
  rw [ok_bnd]
  exact Iff.rfl
theorem ok_sortL {ss : List Str} : Ok (lft (sortP (.lst (ss.map .str)))) s QL ↔ QL ((sortS ss).map .str) s := by
  rw [ok_lft]; simp [sortP, strsOf_map]
theorem ok_sortT {ss : List Str} : Ok (lft (sortP (.tup (ss.map .str)))) s QL ↔ QL ((sortS ss).map .str) s := by
  rw [ok_lft]; simp [sortP, strsOf_map]
theorem ok_anyL {bs : List Bool} : Ok (lft (anyP (.lst (bs.map .bl)))) s Q ↔ Q (.bl (bs.any id)) s := by
  rw [ok_lft]; simp [anyP, blsOf_map]
theorem ok_allL {bs : List Bool} : Ok (lft (allP (.lst (bs.map .bl)))) s Q ↔ Q (.bl (bs.all id)) s := by
  rw [ok_lft]; simp [allP, blsOf_map]
theorem ok_inT {neg : Bool} {ss : List Str} : Ok (lft (inP neg (.str x) (.tup (ss.map .str)))) s Q ↔ Q (.bl (if neg then !decide (x ∈ ss) else decide (x ∈ ss))) s := by
  rw [ok_lft]; unfold inP; simp only [strsOf_map]; simp
/-- membership in a list: it answers -/
theorem ok_inL_some {neg : Bool} {d : PyData} {ds : List PyData} {v : PV} (hv : v.toD = some d) (hvs : PV.toDs ys = some ds) (h1 : SeqAt.shaped d = true) (h2 : SeqAt.shaped (.list ds) = true) (h : ∀ b, Q (.bl b) s) : Ok (lft (inP neg v (.lst ys))) s Q := by
  rw [ok_lft]
  unfold inP
  cases v <;> simp only [hv, hvs, h1, h2, and_self, if_true] <;> exact ⟨_, rfl, h _⟩
theorem ok_eq_some {neg : Bool} {d e : PyData} {v w : PV} (hv : v.toD = some d) (hw : w.toD = some e) (h1 : SeqAt.shaped d = true) (h2 : SeqAt.shaped e = true) (h : ∀ b, Q (.bl b) s) : Ok (lft (eqP neg v w)) s Q :=
  (ok_eqD hv hw h1 h2).mpr (h _)
theorem ok_reprD {v : PV} {d : PyData} (hv : v.toD = some d) (h1 : d.showable = true) (h2 : d.hasDict = false) (h3 : d.depth ≤ 64) (h4 : d.shown.length ≤ sizeLine) : Ok (lft (reprP v)) s Q ↔ Q (.str d.shown) s := by
  rw [ok_lft]
  unfold reprP
  simp [hv, h1, h2, h3, h4]
theorem strsOf_toDs {ss : List Str} : PV.toDs (ss.map .str) = some (ss.map .str) := toDs_strs ss
/-! ### data that can be shown and compared -/
structure GdD (n w : Nat) (d : PyData) : Prop where
  lay : d.canLay0 = true
  show' : d.showable = true
  short : d.intsShort 13 = true
  dep : d.depth ≤ n
  wt : d.weight ≤ w
structure GdA (n w : Nat) (ds : List PyData) : Prop where
  lay : PyData.canLayAll0 ds = true
  show' : PyData.showableAll ds = true
  short : PyData.intsShortAll 13 ds = true
  dep : PyData.depthAll ds ≤ n
  wt : PyData.weightAll ds ≤ w
def Gd (n w : Nat) (v : PV) : Prop := ∃ d, v.toD = some d ∧ GdD n w d
theorem GdD.mono {n w n' w' : Nat} {d : PyData} (h : GdD n w d) (hn : n ≤ n') (hw : w ≤ w') : GdD n' w' d := ⟨h.lay, h.show', h.short, Nat.le_trans h.dep hn, Nat.le_trans h.wt hw⟩
theorem Gd.mono {n w n' w' : Nat} {v : PV} (h : Gd n w v) (hn : n ≤ n') (hw : w ≤ w') : Gd n' w' v := by
  obtain ⟨d, e, g⟩ := h
  exact ⟨d, e, g.mono hn hw⟩
theorem gdAll {n w : Nat} : ∀ {vs : List PV}, (∀ v ∈ vs, Gd n w v) → ∃ ds, PV.toDs vs = some ds ∧ GdA n (vs.length * (w + 1)) ds
  | [], _ => ⟨[], by rw [PV.toDs], ⟨rfl, rfl, rfl, Nat.zero_le _, Nat.zero_le _⟩⟩
  | v :: vs, h => by
    obtain ⟨d, e, g⟩ := h v List.mem_cons_self
    obtain ⟨ds, es, gs⟩ := gdAll fun z hz => h z (List.mem_cons_of_mem _ hz)
    refine ⟨d :: ds, by rw [PV.toDs, e, es], ⟨?_, ?_, ?_, ?_, ?_⟩⟩
    · rw [PyData.canLayAll0, g.lay, gs.lay]; rfl
    · rw [PyData.showableAll, g.show', gs.show']; rfl
    · rw [PyData.intsShortAll, g.short, gs.short]; rfl
    · rw [PyData.depthAll]; exact Nat.max_le.mpr ⟨g.dep, gs.dep⟩
    · rw [PyData.weightAll, List.length_cons, Nat.add_mul]
      have h1 := g.wt
      have h2 := gs.wt
      omega
theorem gd_lst {n w : Nat} {vs : List PV} (h : ∀ v ∈ vs, Gd n w v) : Gd (n + 1) (vs.length * (w + 1)) (.lst vs) := by
  obtain ⟨ds, e, g⟩ := gdAll h
  refine ⟨.list ds, by rw [PV.toD, e]; rfl, ⟨?_, ?_, ?_, ?_, ?_⟩⟩
  · rw [PyData.canLay0]; exact g.lay
  · rw [PyData.showable]; exact g.show'
  · rw [PyData.intsShort]; exact g.short
  · rw [PyData.depth]; have := g.dep; omega
  · rw [PyData.weight]; exact g.wt
theorem gd_tup {n w : Nat} {vs : List PV} (h : ∀ v ∈ vs, Gd n w v) : Gd (n + 1) (vs.length * (w + 1)) (.tup vs) := by
  obtain ⟨ds, e, g⟩ := gdAll h
  refine ⟨.tuple ds, by rw [PV.toD, e]; rfl, ⟨?_, ?_, ?_, ?_, ?_⟩⟩
  · rw [PyData.canLay0]; exact g.lay
  · rw [PyData.showable]; exact g.show'
  · rw [PyData.intsShort]; exact g.short
  · rw [PyData.depth]; have := g.dep; omega
  · rw [PyData.weight]; exact g.wt
theorem gd_str {n w : Nat} {x : Str} (h : PyData.strOk x = true) (hw : x.length ≤ w) : Gd n w (.str x) := by
  refine ⟨.str x, by rw [PV.toD], ⟨by rw [PyData.canLay0]; exact h, by rw [PyData.showable], by rw [PyData.intsShort], by rw [PyData.depth]; exact Nat.zero_le _, by rw [PyData.weight]; exact hw⟩⟩
theorem gd_bl {n w : Nat} {b : Bool} : Gd n w (.bl b) :=
  ⟨.bool b, by rw [PV.toD], ⟨by rw [PyData.canLay0], by rw [PyData.showable], by rw [PyData.intsShort], by rw [PyData.depth]; exact Nat.zero_le _, by rw [PyData.weight]; exact Nat.zero_le _⟩⟩
theorem gd_non {n w : Nat} : Gd n w .non :=
  ⟨.none, by rw [PV.toD], ⟨by rw [PyData.canLay0], by rw [PyData.showable], by rw [PyData.intsShort], by rw [PyData.depth]; exact Nat.zero_le _, by rw [PyData.weight]; exact Nat.zero_le _⟩⟩
theorem gd_int {n : Nat} {k : Int} (h : k.natAbs < 10 ^ 12) : Gd n 40 (.int k) := by
  have hl : k.natAbs.log2 < 40 := log_lt (Nat.lt_trans h (by decide)) (by decide)
  refine ⟨.int k, by rw [PV.toD], ⟨by rw [PyData.canLay0], ?_, ?_, by rw [PyData.depth]; exact Nat.zero_le _, ?_⟩⟩
  · rw [PyData.showable, decide_eq_true_eq]; omega
  · rw [PyData.intsShort, decide_eq_true_eq]; exact PyData.shown_int_le h
  · rw [PyData.weight]
    split <;> omega
theorem GdA.shaped {n w : Nat} {ds : List PyData} (h : GdA n w ds) (hn : n ≤ 60) : SeqAt.shaped (.list ds) = true := shaped_list h.lay (Nat.le_trans h.dep hn)
theorem GdD.shaped {n w : Nat} {d : PyData} (h : GdD n w d) (hn : n ≤ 60) : SeqAt.shaped d = true := by
  have h2 : d.depth ≤ 60 := Nat.le_trans h.dep hn
  unfold SeqAt.shaped
  rw [h.lay]
  simp
  omega
/-- the text that repr gives -/
def rp (v : PV) : Str := match v.toD with
  | some d => d.shown
  | none => ""
theorem ok_repr {n w : Nat} {v : PV} (h : Gd n w v) (hn : n ≤ 60) (hw : w ≤ 1048576) : Ok (lft (reprP v)) s Q ↔ Q (.str (rp v)) s := by
  obtain ⟨d, e, g⟩ := h
  have e2 : rp v = d.shown := by unfold rp; rw [e]
  rw [e2]
  exact ok_reprD e g.show' (PyData.hasDict_of_canLay d g.lay) (Nat.le_trans g.dep (by omega)) (PyData.shown_fits (B := 13) (by decide) (by decide) (PyData.leavesShort_of_canLay0 13 d g.lay g.short) (Nat.le_trans g.wt hw))
theorem ok_eqNilG {neg : Bool} {n w : Nat} (h : ∀ v ∈ xs, Gd n w v) (hn : n ≤ 60) : Ok (lft (eqP neg (.lst xs) (.lst []))) s Q ↔ Q (.bl (if neg then !xs.isEmpty else xs.isEmpty)) s := by
  obtain ⟨ds, e, g⟩ := gdAll h
  exact ok_eqNil e (g.shaped hn)
theorem ok_eqG {neg : Bool} {n w n' w' : Nat} {v u : PV} (h : Gd n w v) (h' : Gd n' w' u) (hn : n ≤ 60) (hn' : n' ≤ 60) (hq : ∀ b, Q (.bl b) s) : Ok (lft (eqP neg v u)) s Q := by
  obtain ⟨d, e, g⟩ := h
  obtain ⟨d', e', g'⟩ := h'
  exact ok_eq_some e e' (g.shaped hn) (g'.shaped hn') hq
theorem ok_inG {neg : Bool} {n w n' w' : Nat} {v : PV} (h : Gd n w v) (h' : ∀ u ∈ ys, Gd n' w' u) (hn : n ≤ 60) (hn' : n' ≤ 60) (hq : ∀ b, Q (.bl b) s) : Ok (lft (inP neg v (.lst ys))) s Q := by
  obtain ⟨d, e, g⟩ := h
  obtain ⟨ds, e', g'⟩ := gdAll h'
  exact ok_inL_some e e' (g.shaped hn) (g'.shaped hn') hq
/-! ### texts: valid ones -/
def sOk (w : Nat) (x : Str) : Prop := PyData.strOk x = true ∧ x.length ≤ w
theorem strOk_iff {x : Str} : PyData.strOk x = true ↔ ∀ c ∈ x.cps.toList, c < 0x110000 := by
  unfold PyData.strOk
  constructor
  · intro h c hc
    have := (Array.all_eq_true_iff_forall_mem.mp h) c (Array.mem_toList_iff.mp hc)
    simpa using this
  · intro h
    refine Array.all_eq_true_iff_forall_mem.mpr fun c hc => ?_
    have := h c (Array.mem_toList_iff.mpr hc)
    simpa using this
theorem strOk_app (hx : PyData.strOk x = true) (hy : PyData.strOk y = true) : PyData.strOk (x ++ y) = true := by
  rw [strOk_iff] at hx hy ⊢
  intro c hc
  have e : (x ++ y).cps.toList = x.cps.toList ++ y.cps.toList := by
    show (x.cps ++ y.cps).toList = _
    rw [Array.toList_append]
  rw [e] at hc
  rcases List.mem_append.mp hc with h | h
  · exact hx c h
  · exact hy c h
theorem sOk_one {c : Nat} {w : Nat} (h : c < 0x110000) (hw : 1 ≤ w) : sOk w ⟨#[c]⟩ := by
  refine ⟨strOk_iff.mpr fun d hd => ?_, hw⟩
  have : d = c := by simpa using hd
  rw [this]; exact h
theorem sOk_app {w w' : Nat} (hx : sOk w x) (hy : sOk w' y) : sOk (w + w') (x ++ y) := by
  refine ⟨strOk_app hx.1 hy.1, ?_⟩
  have e : (x ++ y).length = x.length + y.length := by
    show (x.cps ++ y.cps).size = _
    rw [Array.size_append]
    rfl
  rw [e]
  exact Nat.add_le_add hx.2 hy.2
theorem sOk.mono {w w' : Nat} (hx : sOk w x) (h : w ≤ w') : sOk w' x := ⟨hx.1, Nat.le_trans hx.2 h⟩
theorem sOk.gd {n w : Nat} (hx : sOk w x) : Gd n w (.str x) := gd_str hx.1 hx.2
/-! ### an answer as an equation -/
theorem Ok.eq {α : Type} {c : M α} {s s' : S} {a : α} (h : Ok c s (fun b t => b = a ∧ t = s')) : c s = .ok a s' := by
  obtain ⟨b, t, e, rfl, rfl⟩ := h.ex
  exact e
theorem OkF.eq {r : RR} {d : PV} {st : List MO} (h : OkF r (fun b t => b = d ∧ t = st)) : r = .ok d st := by
  obtain ⟨b, t, e, rfl, rfl⟩ := h.ex
  exact e
theorem OkF.of {r : RR} {d : PV} {st : List MO} {Q : PV → List MO → Prop} (e : r = .ok d st) (h : Q d st) : OkF r Q := by rw [e]; exact h
def chkK (Q : Prop) : Option (Option SV) → Prop
  | some (some _) => Q
  | _ => False
theorem ok_chk' {env : Env} {st : List MO} {QU : Unit → S → Prop} : Ok (chk i) ⟨env, st⟩ QU ↔ chkK (QU () ⟨env, st⟩) env[i]? := by
  unfold Ok chk chkK
  dsimp only
  rcases env[i]? with _ | _ | sv <;> exact Iff.rfl
theorem chkK_some {P : Prop} {sv : SV} : chkK P (some (some sv)) ↔ P := Iff.rfl
theorem flK_nx {N : S → Prop} : flK QF N s .nx ↔ N s := Iff.rfl
theorem flK_ct {N : S → Prop} : flK QF N s .ct ↔ N s := Iff.rfl
theorem flK_bk {N : S → Prop} : flK QF N s .bk ↔ QF .nx s := Iff.rfl
theorem flK_rt {N : S → Prop} {d : PV} : flK QF N s (.rt d) ↔ QF (.rt d) s := Iff.rfl
theorem sl_L {lo hi : Option Int} {R : PV → Prop} : (∃ z, slP (.lst xs) lo hi = some z ∧ R z) ↔ R (.lst (cutP xs lo hi)) := by simp [slP]
theorem sl_T {lo hi : Option Int} {R : PV → Prop} : (∃ z, slP (.tup xs) lo hi = some z ∧ R z) ↔ R (.tup (cutP xs lo hi)) := by simp [slP]
theorem sl_S {lo hi : Option Int} {R : PV → Prop} : (∃ z, slP (.str x) lo hi = some z ∧ R z) ↔ x.length ≤ sizeLine ∧ R (.str (L2.cutS x lo hi)) := by
  show (∃ z, (if x.length ≤ sizeLine then some (PV.str (L2.cutS x lo hi)) else none) = some z ∧ R z) ↔ _
  exact opt_if
theorem it_L {R : List PV → Prop} : (∃ z, itemsP (.lst xs) = some z ∧ R z) ↔ R xs := by simp [itemsP]
theorem it_T {R : List PV → Prop} : (∃ z, itemsP (.tup xs) = some z ∧ R z) ↔ R xs := by simp [itemsP]
/-! ### own lists -/
theorem ok_chkO {env : Env} {st : List MO} {QU : Unit → S → Prop} : Ok (chkO i) ⟨env, st⟩ QU ↔ (∃ zs, env[i]? = some (some (.own zs))) ∧ QU () ⟨env, st⟩ := by
  unfold Ok chkO
  dsimp only
  rcases env[i]? with _ | _ | sv
  · exact ⟨fun h => h.elim, fun ⟨⟨_, h⟩, _⟩ => nomatch h⟩
  · exact ⟨fun h => h.elim, fun ⟨⟨_, h⟩, _⟩ => nomatch h⟩
  · cases sv with
    | val => exact ⟨fun h => h.elim, fun ⟨⟨_, h⟩, _⟩ => nomatch h⟩
    | own zs => exact ⟨fun h => ⟨⟨zs, rfl⟩, h⟩, fun h => h.2⟩
theorem ok_app {env : Env} {st : List MO} : Ok (appM i ca) ⟨env, st⟩ Q ↔ (∃ zs, env[i]? = some (some (.own zs))) ∧ Ok ca ⟨env, st⟩ (fun d s' => Ok (pushM i d) s' Q) := by
  unfold appM
  rw [ok_bnd, ok_chkO, ok_bnd]
theorem ok_push {env : Env} {st : List MO} {d : PV} {zs : List PV} (h : env[i]? = some (some (.own zs))) (hl : zs.length < sizeLine) : Ok (pushM i d) ⟨env, st⟩ Q ↔ Q .non ⟨env.set i (some (.own (zs ++ [d]))), st⟩ := by
  unfold Ok pushM
  simp only [h, hl, if_true]
theorem ok_pop {env : Env} {st : List MO} : Ok (popM i ca) ⟨env, st⟩ Q ↔ (∃ zs, env[i]? = some (some (.own zs))) ∧ Ok ca ⟨env, st⟩ (fun d s' => Ok (takeM i d) s' Q) := by
  unfold popM
  rw [ok_bnd, ok_chkO, ok_bnd]
theorem ok_take {env : Env} {st : List MO} {k : Nat} {zs : List PV} {z : PV} (h : env[i]? = some (some (.own zs))) (hz : zs[k]? = some z) (hk : k < 2 ^ 63) : Ok (takeM i (.int k)) ⟨env, st⟩ Q ↔ Q z ⟨env.set i (some (.own (zs.eraseIdx k))), st⟩ := by
  have hlt : k < zs.length := (List.getElem?_eq_some_iff.mp hz).1
  have e : seqIndex? (k : Int) zs.length = some k := by
    unfold seqIndex?
    simp
    omega
  unfold Ok takeM
  have h2 : (-(2 ^ 63) : Int) ≤ (k : Int) ∧ (k : Int) < 2 ^ 63 := by omega
  simp only [h, e, hz, h2, and_self, if_true]
/-! ### blocks that answer somehow -/
/-- turns over a list; every turn may change the store by I; the names before stay -/
theorem ok_lcSome {vs : List Nat} {cond : M Bool} {elt : M PV} {zs : List PV} {env : Env} {st : List MO} (I : Nat → List MO → Prop) (R : PV → Prop) (hw : wip env vs = env) (hi : i ∈ vs) (hl : zs.length ≤ sizeLine) (h0 : I 0 st)
    (hwi : ∀ x : PV, wip (env.set i (some (.val x))) vs = env)
    (hc : ∀ k x st, zs[k]? = some x → I k st → Ok cond ⟨env.set i (some (.val x)), st⟩ (fun b s1 => s1.env = env.set i (some (.val x)) ∧ if b = true then Ok elt s1 (fun y s2 => s2.env = env.set i (some (.val x)) ∧ R y ∧ I (k + 1) s2.sto) else I (k + 1) s1.sto))
    (hd : ∀ ys st', ys.length ≤ zs.length → (∀ y ∈ ys, R y) → I zs.length st' → QL ys ⟨env, st'⟩) : Ok (lcGo i vs cond elt zs []) ⟨env, st⟩ QL := by
  refine ok_lcGo (fun k acc s => k ≤ zs.length ∧ s.env = env ∧ I k s.sto ∧ acc.length ≤ k ∧ ∀ y ∈ acc, R y) ⟨Nat.zero_le _, rfl, h0, Nat.le_refl _, fun y h => by cases h⟩ ?_ ?_
  · rintro k x acc ⟨env', st'⟩ hx ⟨hk, rfl, hI, hla, hR⟩
    have hk' : k < zs.length := (List.getElem?_eq_some_iff.mp hx).1
    refine (hc k x st' hx hI).imp fun b s1 q => ?_
    cases b with
    | false =>
      simp only [Bool.false_eq_true, if_false] at q ⊢
      exact ⟨hk', by rw [q.1, hwi], q.2, by omega, hR⟩
    | true =>
      simp only [if_true] at q ⊢
      refine q.2.imp fun y s2 q2 => ⟨by omega, hk', by rw [q2.1, hwi], q2.2.2, by simp; omega, fun z hz => ?_⟩
      rcases List.mem_append.mp hz with hz | hz
      · exact hR z hz
      · rw [List.mem_singleton.mp hz]
        exact q2.2.1
  · rintro acc ⟨env', st'⟩ ⟨_, rfl, hI, hla, hR⟩
    exact hd acc st' hla hR hI
/-- with every turn making one thing -/
theorem ok_lcEach {vs : List Nat} {elt : M PV} {zs : List PV} {env : Env} {st : List MO} (I : Nat → List MO → Prop) (R : PV → Prop) (hw : wip env vs = env) (hi : i ∈ vs) (hl : zs.length ≤ sizeLine) (h0 : I 0 st)
    (hwi : ∀ x : PV, wip (env.set i (some (.val x))) vs = env)
    (hc : ∀ k x st, zs[k]? = some x → I k st → Ok elt ⟨env.set i (some (.val x)), st⟩ (fun y s2 => s2.env = env.set i (some (.val x)) ∧ R y ∧ I (k + 1) s2.sto))
    (hd : ∀ ys st', ys.length = zs.length → (∀ y ∈ ys, R y) → I zs.length st' → QL ys ⟨env, st'⟩) : Ok (lcGo i vs (ret true) elt zs []) ⟨env, st⟩ QL := by
  refine ok_lcGo (fun k acc s => k ≤ zs.length ∧ s.env = env ∧ I k s.sto ∧ acc.length = k ∧ ∀ y ∈ acc, R y) ⟨Nat.zero_le _, rfl, h0, rfl, fun y h => by cases h⟩ ?_ ?_
  · rintro k x acc ⟨env', st'⟩ hx ⟨hk, rfl, hI, hla, hR⟩
    have hk' : k < zs.length := (List.getElem?_eq_some_iff.mp hx).1
    show Ok elt _ _
    refine (hc k x st' hx hI).imp fun y s2 q2 => ⟨by omega, hk', by rw [q2.1, hwi], q2.2.2, by simp; omega, fun z hz => ?_⟩
    rcases List.mem_append.mp hz with hz | hz
    · exact hR z hz
    · rw [List.mem_singleton.mp hz]
      exact q2.2.1
  · rintro acc ⟨env', st'⟩ ⟨_, rfl, hI, hla, hR⟩
    exact hd acc st' hla hR hI
/-- a typed filter and map: nothing changes -/
theorem ok_lcT {α : Type} {vs : List Nat} {cond : M Bool} {elt : M PV} {as : List α} (g : α → PV) {env : Env} {st : List MO} (p : α → Bool) (f : α → PV) (hw : wip env vs = env) (hi : i ∈ vs) (hl : as.length ≤ sizeLine)
    (hwi : ∀ x : PV, wip (env.set i (some (.val x))) vs = env)
    (hc : ∀ a ∈ as, Ok cond ⟨env.set i (some (.val (g a))), st⟩ (fun b s1 => b = p a ∧ s1 = ⟨env.set i (some (.val (g a))), st⟩))
    (he : ∀ a ∈ as, p a = true → Ok elt ⟨env.set i (some (.val (g a))), st⟩ (fun y s1 => y = f a ∧ s1 = ⟨env.set i (some (.val (g a))), st⟩))
    (hd : QL ((as.filter p).map f) ⟨env, st⟩) : Ok (lcGo i vs cond elt (as.map g) []) ⟨env, st⟩ QL := by
  refine ok_lcGo (fun k acc s => s = ⟨env, st⟩ ∧ acc = ((as.take k).filter p).map f) ⟨rfl, by simp⟩ ?_ ?_
  · rintro k x acc s' hx ⟨rfl, rfl⟩
    rw [List.getElem?_map] at hx
    obtain ⟨a, hx2, rfl⟩ := Option.map_eq_some_iff.mp hx
    clear hx
    have hx := hx2
    have hm : a ∈ as := List.mem_of_getElem? hx
    have hk : k < as.length := (List.getElem?_eq_some_iff.mp hx).1
    have ht : as.take (k + 1) = as.take k ++ [a] := by
      rw [List.take_succ, hx]
      rfl
    refine (hc a hm).imp fun b s1 q => ?_
    obtain ⟨rfl, rfl⟩ := q
    cases hp : p a with
    | true =>
      simp only [if_true]
      refine (he a hm hp).imp fun y s2 q => ?_
      obtain ⟨rfl, rfl⟩ := q
      refine ⟨?_, by simp only [hwi], ?_⟩
      · refine Nat.lt_of_lt_of_le ?_ hl
        rw [List.length_map]
        exact Nat.lt_of_le_of_lt (List.length_filter_le _ _) (by rw [List.length_take]; omega)
      · rw [ht, List.filter_append, List.map_append, List.filter_cons, hp]
        rfl
    | false =>
      simp only [Bool.false_eq_true, if_false]
      refine ⟨by simp only [hwi], ?_⟩
      rw [ht, List.filter_append, List.map_append, List.filter_cons, hp]
      simp
  · rintro acc s' ⟨rfl, rfl⟩
    rw [List.length_map, List.take_length]
    exact hd
theorem ex_map {α : Type} {f : α → PV} {P : α → Prop} : ∀ {ys : List PV}, (∀ y ∈ ys, ∃ a, y = f a ∧ P a) → ∃ as : List α, ys = as.map f ∧ ∀ a ∈ as, P a
  | [], _ => ⟨[], rfl, fun a h => by cases h⟩
  | y :: ys, h => by
    obtain ⟨a, rfl, ha⟩ := h y List.mem_cons_self
    obtain ⟨as, rfl, h2⟩ := ex_map fun z hz => h z (List.mem_cons_of_mem _ hz)
    exact ⟨a :: as, rfl, fun b hb => by
      rcases List.mem_cons.mp hb with rfl | hb
      · exact ha
      · exact h2 b hb⟩
end
end Dn
/-! Pl4: cuts, joined texts, ranges, lots of titles. -/
namespace Dn
open PySem

section
variable {s : S} {Q : PV → S → Prop} {QL : List PV → S → Prop} {QF : Fl → S → Prop} {a b : Int} {x y : Str} {xs ys : List PV} {i j : Nat} {ca : M PV}
theorem mem_cut {lo hi : Option Int} {v : PV} (h : v ∈ cutP xs lo hi) : v ∈ xs := List.mem_of_mem_drop (List.mem_of_mem_take h)
theorem cut_len {lo hi : Option Int} : (cutP xs lo hi).length ≤ xs.length := by
  unfold cutP
  rw [List.length_take, List.length_drop]
  omega
theorem sOk_cut {w : Nat} {lo hi : Option Int} (h : sOk w x) : sOk w (L2.cutS x lo hi) := by
  refine ⟨strOk_iff.mpr fun c hc => ?_, ?_⟩
  · have : c ∈ x.cps.toList := by
      unfold L2.cutS at hc
      exact List.mem_of_mem_drop (List.mem_of_mem_take (by simpa using hc))
    exact strOk_iff.mp h.1 c this
  · refine Nat.le_trans ?_ h.2
    unfold L2.cutS
    show ((List.take _ _).toArray).size ≤ x.cps.size
    rw [List.size_toArray, List.length_take, List.length_drop, Array.length_toList]
    omega
theorem glued_fold {w wa : Nat} {g : Str} (hg : sOk wa g) : ∀ (ps : List Str) (acc : Array Nat), (∀ z ∈ ps, sOk w z) → (∀ c ∈ acc.toList, c < 0x110000) →
    (∀ c ∈ (ps.foldl (fun acc p => acc ++ g.cps ++ p.cps) acc).toList, c < 0x110000) ∧ (ps.foldl (fun acc p => acc ++ g.cps ++ p.cps) acc).size ≤ acc.size + ps.length * (w + wa)
  | [], acc, _, h => ⟨h, by simp⟩
  | p :: ps, acc, hz, h => by
    have h1 := hz p List.mem_cons_self
    obtain ⟨i1, i2⟩ := glued_fold hg ps (acc ++ g.cps ++ p.cps) (fun z hm => hz z (List.mem_cons_of_mem _ hm)) (fun c hc => by
      rw [Array.toList_append, Array.toList_append] at hc
      rcases List.mem_append.mp hc with hc | hc
      · rcases List.mem_append.mp hc with hc | hc
        · exact h c hc
        · exact strOk_iff.mp hg.1 c hc
      · exact strOk_iff.mp h1.1 c hc)
    refine ⟨i1, ?_⟩
    rw [List.foldl_cons]
    refine Nat.le_trans i2 ?_
    rw [Array.size_append, Array.size_append, List.length_cons, Nat.add_mul]
    have e1 : g.cps.size ≤ wa := hg.2
    have e2 : p.cps.size ≤ w := h1.2
    omega
theorem sOk_join {w wa : Nat} {zs : List Str} (hz : ∀ z ∈ zs, sOk w z) (ha : sOk wa x) : sOk (zs.length * (w + wa)) (Txt.join x zs) := by
  unfold Txt.join PySem.Builtin.Str.glued
  cases zs with
  | nil => exact ⟨strOk_iff.mpr fun c hc => (List.not_mem_nil (show c ∈ ([] : List Nat) from hc)).elim, Nat.zero_le _⟩
  | cons z r =>
    have h1 := hz z List.mem_cons_self
    obtain ⟨i1, i2⟩ := glued_fold ha r z.cps (fun z hm => hz z (List.mem_cons_of_mem _ hm)) (strOk_iff.mp h1.1)
    refine ⟨strOk_iff.mpr i1, Nat.le_trans i2 ?_⟩
    have e2 : z.cps.size ≤ w := h1.2
    rw [List.length_cons, Nat.add_mul]
    omega
theorem sum_le {w : Nat} : ∀ {zs : List Str}, (∀ z ∈ zs, z.length ≤ w) → (zs.map (·.length)).sum ≤ zs.length * w
  | [], _ => Nat.zero_le _
  | z :: zs, h => by
    have h1 := h z List.mem_cons_self
    have h2 := sum_le fun z hz => h z (List.mem_cons_of_mem _ hz)
    rw [List.map_cons, List.sum_cons, List.length_cons, Nat.add_mul]
    omega
theorem joinP_map {zs : List Str} (h : (zs.map (·.length)).sum + zs.length * x.length ≤ 16777216) : joinP x (.lst (zs.map .str)) = some (.str (Txt.join x zs)) := by
  unfold joinP
  simp [strsOf_map, h]
theorem rngP_nat {k : Int} (h0 : 0 ≤ k) (h1 : k < 2 ^ 62) : rngP (.int k) = some ((List.range k.toNat).map fun (k : Nat) => PV.int (0 + (k : Int))) := by
  have : -(2 ^ 62) ≤ k ∧ k < 2 ^ 62 := by omega
  simp only [rngP, if_pos this]
theorem rng_get {k : Int} {t : Nat} {v : PV} (h : ((List.range k.toNat).map fun (k : Nat) => PV.int (0 + (k : Int)))[t]? = some v) : v = .int t ∧ (t : Int) < k := by
  rw [List.getElem?_map] at h
  obtain ⟨u, h1, rfl⟩ := Option.map_eq_some_iff.mp h
  obtain ⟨h2, h3⟩ := List.getElem?_eq_some_iff.mp h1
  rw [List.length_range] at h2
  rw [List.getElem_range] at h3
  subst h3
  refine ⟨by simp, by omega⟩
theorem rng_len {k : Int} : ((List.range k.toNat).map fun (k : Nat) => PV.int (0 + (k : Int))).length = k.toNat := by simp
theorem cut_to {k : Int} (h : 0 ≤ k) : (cutP xs none (some k)).length ≤ k.toNat := by
  unfold cutP
  obtain ⟨m, rfl⟩ := Int.eq_ofNat_of_zero_le h
  rw [List.length_take, List.length_drop, HT.sIx_nat, HT.sIx_none]
  simp
  omega
def okStrs (w : Nat) (vs : List PV) : Bool := vs.all fun v => match v with
  | .str a => PyData.strOk a && decide (a.length ≤ w)
  | _ => false
theorem okStrs_of {w : Nat} {vs : List PV} (h : okStrs w vs = true) {v : PV} (hv : v ∈ vs) : ∃ a, v = .str a ∧ sOk w a := by
  unfold okStrs at h
  have := List.all_eq_true.mp h v hv
  cases v <;> try exact absurd this Bool.false_ne_true
  rename_i a
  simp only [Bool.and_eq_true, decide_eq_true_eq] at this
  exact ⟨a, rfl, this⟩
theorem cut2 {Q : PV → List MO → Prop} {st : List MO} {L : List PV} {a b c d : Option Int} (w : Nat) (h : okStrs w L = true)
    (hz : ∀ ss : List Str, cutP (cutP L a b) c d = ss.map .str → (∀ x ∈ ss, sOk w x) → Q (.lst (ss.map .str)) st) : Q (.lst (cutP (cutP L a b) c d)) st := by
  obtain ⟨ss, e, hs⟩ := ex_map fun v hv => okStrs_of h (mem_cut (mem_cut (v := v) hv))
  rw [e]
  exact hz ss e hs
theorem ones_fold : ∀ (ps : List Str) (acc : Array Nat), (∀ z ∈ ps, z.length = 1) → (ps.foldl (fun acc p => acc ++ (Str.ofString "").cps ++ p.cps) acc).size = acc.size + ps.length
  | [], acc, _ => rfl
  | p :: ps, acc, h => by
    rw [List.foldl_cons, ones_fold ps _ fun z hz => h z (List.mem_cons_of_mem _ hz), Array.size_append, Array.size_append]
    have e1 : (Str.ofString "").cps.size = 0 := rfl
    have e2 : p.cps.size = 1 := h p List.mem_cons_self
    rw [e1, e2, List.length_cons]
    omega
theorem join_one : ∀ zs : List Str, (∀ z ∈ zs, z.length = 1) → (Txt.join (Str.ofString "") zs).length = zs.length
  | [], _ => rfl
  | z :: r, h => by
    show (r.foldl (fun acc p => acc ++ (Str.ofString "").cps ++ p.cps) z.cps).size = _
    rw [ones_fold r _ fun y hy => h y (List.mem_cons_of_mem _ hy), List.length_cons]
    have e2 : z.cps.size = 1 := h z List.mem_cons_self
    omega
/-! ### lots: titles in tuples -/
abbrev tT (l : List Str) : PV := .tup (l.map .str)
abbrev lL (ls : List (List Str)) : PV := .lst (ls.map tT)
theorem tupLens_lots : ∀ ls : List (List Str), tupLens (ls.map tT) = some (ls.map fun l => (l.length : Int))
  | [] => rfl
  | l :: ls => by
    show (tupLens (ls.map tT)).map (((l.map PV.str).length : Int) :: ·) = _
    rw [tupLens_lots ls]
    simp
def lenSort (ls : List (List Str)) : List (List Str) := (sortK ((ls.map fun l => (l.length : Int)).zip ls)).map (·.2)
theorem zip_map_snd {α β γ : Type} (f : β → γ) : ∀ (as : List α) (bs : List β), as.zip (bs.map f) = (as.zip bs).map fun p => (p.1, f p.2)
  | [], bs => by simp
  | a :: as, [] => by simp
  | a :: as, b :: bs => by simp [zip_map_snd f as bs]
theorem insK_map {α β : Type} (f : α → β) (p : Int × α) : ∀ l : List (Int × α), insK (p.1, f p.2) (l.map fun q => (q.1, f q.2)) = (insK p l).map fun q => (q.1, f q.2)
  | [] => rfl
  | q :: r => by
    simp only [List.map_cons, insK]
    split
    · rfl
    · rw [insK_map f p r]; rfl
theorem sortK_map {α β : Type} (f : α → β) : ∀ l : List (Int × α), sortK (l.map fun q => (q.1, f q.2)) = (sortK l).map fun q => (q.1, f q.2)
  | [] => rfl
  | p :: r => by
    rw [List.map_cons]
    show insK _ (sortK _) = _
    rw [sortK_map f r]
    exact insK_map f p _
theorem ok_sortLen {ls : List (List Str)} : Ok (lft (sortLenP (lL ls))) s QL ↔ QL ((lenSort ls).map tT) s := by
  rw [ok_lft]
  have : sortLenP (lL ls) = some ((lenSort ls).map tT) := by
    unfold sortLenP lL lenSort
    simp only [tupLens_lots, Option.map_some, zip_map_snd, sortK_map, List.map_map]
    rfl
  rw [this]
  simp
theorem zip_snd {α β : Type} : ∀ (as : List α) (bs : List β), as.length = bs.length → (as.zip bs).map (·.2) = bs
  | [], [], _ => rfl
  | a :: as, b :: bs, h => by simp [zip_snd as bs (by simpa using h)]
  | [], _ :: _, h => by cases h
  | _ :: _, [], h => by cases h
theorem lenSort_perm (ls : List (List Str)) : (lenSort ls).Perm ls := by
  unfold lenSort
  have h := (sortK_perm ((ls.map fun l => (l.length : Int)).zip ls)).map (·.2)
  rw [zip_snd _ _ (by simp)] at h
  exact h
end
end Dn
/-! Pl5: filters that answer somehow; lots of titles. -/
namespace Dn
open PySem

section
variable {s : S} {Q : PV → S → Prop} {QL : List PV → S → Prop} {i : Nat}
/-- a filter whose test answers somehow: some of the list -/
theorem ok_lcSub {α : Type} {vs : List Nat} {cond : M Bool} {as : List α} (g : α → PV) {env : Env} {st : List MO} (hlt : i < env.length) (hw : wip env vs = env) (hi : i ∈ vs) (hl : as.length ≤ sizeLine)
    (hwi : ∀ x : PV, wip (env.set i (some (.val x))) vs = env)
    (hc : ∀ a ∈ as, Ok cond ⟨env.set i (some (.val (g a))), st⟩ (fun _ s1 => s1 = ⟨env.set i (some (.val (g a))), st⟩))
    (hd : ∀ as' : List α, as'.length ≤ as.length → (∀ a ∈ as', a ∈ as) → QL (as'.map g) ⟨env, st⟩) : Ok (lcGo i vs cond (var i) (as.map g) []) ⟨env, st⟩ QL := by
  refine ok_lcGo (fun k acc s => s = ⟨env, st⟩ ∧ ∃ bs : List α, acc = bs.map g ∧ bs.length ≤ k ∧ ∀ b ∈ bs, b ∈ as) ⟨rfl, [], rfl, Nat.le_refl _, fun b hb => by cases hb⟩ ?_ ?_
  · rintro k x acc s' hx ⟨rfl, bs, rfl, hbl, hbs⟩
    have hk' : k < (as.map g).length := (List.getElem?_eq_some_iff.mp hx).1
    rw [List.length_map] at hk'
    rw [List.getElem?_map] at hx
    obtain ⟨a, hx2, rfl⟩ := Option.map_eq_some_iff.mp hx
    have hm : a ∈ as := List.mem_of_getElem? hx2
    refine (hc a hm).imp fun b s1 q => ?_
    subst q
    cases b with
    | false =>
      simp only [Bool.false_eq_true, if_false]
      exact ⟨by simp only [hwi], bs, rfl, by omega, hbs⟩
    | true =>
      simp only [if_true]
      rw [ok_var, List.getElem?_set_self hlt, varK_val]
      refine ⟨by rw [List.length_map]; omega, by simp only [hwi], bs ++ [a], by rw [List.map_append]; rfl, by rw [List.length_append]; simp; omega, fun c hc => ?_⟩
      rcases List.mem_append.mp hc with hc | hc
      · exact hbs c hc
      · rw [List.mem_singleton.mp hc]; exact hm
  · rintro acc s' ⟨rfl, bs, rfl, hbl, hbs⟩
    rw [List.length_map] at hbl
    exact hd bs hbl hbs
def Lt (l : List Str) : Prop := l.length ≤ 7 ∧ ∀ x ∈ l, sOk 40 x
def Ls (m : Nat) (ls : List (List Str)) : Prop := ls.length ≤ m ∧ ∀ l ∈ ls, Lt l
theorem Lt.gd {l : List Str} (h : Lt l) : Gd 1 300 (tT l) := by
  refine (gd_tup (n := 0) (w := 40) fun v hv => ?_).mono (Nat.le_refl _) ?_
  · obtain ⟨x, hx, rfl⟩ := List.mem_map.mp hv
    exact (h.2 x hx).gd
  · rw [List.length_map]
    have := h.1
    omega
theorem Ls.gd {m : Nat} {ls : List (List Str)} (h : Ls m ls) : ∀ v ∈ ls.map tT, Gd 1 300 v := fun v hv => by
  obtain ⟨l, hl, rfl⟩ := List.mem_map.mp hv
  exact (h.2 l hl).gd
theorem Ls.mono {m m' : Nat} {ls : List (List Str)} (h : Ls m ls) (hm : m ≤ m') : Ls m' ls := ⟨Nat.le_trans h.1 hm, h.2⟩
theorem Ls.sub {m : Nat} {ls ls' : List (List Str)} (h : Ls m ls) (hl : ls'.length ≤ ls.length) (hs : ∀ l ∈ ls', l ∈ ls) : Ls m ls' := ⟨Nat.le_trans hl h.1, fun l hm => h.2 l (hs l hm)⟩
def dbl (ss : List Str) : List (List Str) := ss.foldl (fun found name => found ++ found.map fun l => l ++ [name]) [[]]
def lotsF (ss : List Str) : List (List Str) := lenSort (dbl (sortS ss))
theorem dbl_snoc (ss : List Str) (x : Str) : dbl (ss ++ [x]) = dbl ss ++ (dbl ss).map fun l => l ++ [x] := by
  unfold dbl
  rw [List.foldl_append]
  rfl
theorem dbl_facts : ∀ (n : Nat) (ss : List Str), ss.length = n → (dbl ss).length = 2 ^ n ∧ ∀ l ∈ dbl ss, l.length ≤ n ∧ ∀ x ∈ l, x ∈ ss
  | 0, ss, h => by
    have : ss = [] := List.length_eq_zero_iff.mp h
    subst this
    refine ⟨rfl, fun l hl => ?_⟩
    have : l = [] := by simpa [dbl] using hl
    subst this
    exact ⟨Nat.le_refl _, fun x hx => hx⟩
  | n + 1, ss, h => by
    have hne : ss ≠ [] := by
      rintro rfl
      cases h
    have e : ss = ss.dropLast ++ [ss.getLast hne] := (List.dropLast_concat_getLast hne).symm
    have hl : ss.dropLast.length = n := by rw [List.length_dropLast]; omega
    rw [e, dbl_snoc]
    obtain ⟨h1, h2⟩ := dbl_facts n _ hl
    generalize ss.getLast hne = z
    generalize ss.dropLast = r at h1 h2
    refine ⟨by rw [List.length_append, List.length_map, h1, Nat.pow_succ]; omega, fun l hm => ?_⟩
    rcases List.mem_append.mp hm with hm | hm
    · obtain ⟨a, b⟩ := h2 l hm
      exact ⟨by omega, fun x hx => List.mem_append_left _ (b x hx)⟩
    · obtain ⟨l', hl', rfl⟩ := List.mem_map.mp hm
      obtain ⟨a, b⟩ := h2 l' hl'
      refine ⟨by rw [List.length_append]; simp; omega, fun x hx => ?_⟩
      rcases List.mem_append.mp hx with hx | hx
      · exact List.mem_append_left _ (b x hx)
      · exact List.mem_append_right _ hx
theorem lots_facts {ss : List Str} (h : ss.length ≤ 6) : (lotsF ss).length ≤ 64 ∧ lotsF ss ≠ [] ∧ ∀ l ∈ lotsF ss, l.length ≤ 6 ∧ ∀ x ∈ l, x ∈ ss := by
  obtain ⟨h1, h2⟩ := dbl_facts ss.length (sortS ss) (sortS_length ss)
  have hp := lenSort_perm (dbl (sortS ss))
  have hl : (lotsF ss).length = 2 ^ ss.length := by
    show (lenSort _).length = _
    rw [hp.length_eq, h1]
  have hle : 2 ^ ss.length ≤ 2 ^ 6 := Nat.pow_le_pow_right (by decide) h
  have hpos : 0 < 2 ^ ss.length := Nat.pos_of_ne_zero (by simp)
  refine ⟨by omega, fun e => by (rw [e] at hl; simp only [List.length_nil] at hl; omega), fun l hm => ?_⟩
  obtain ⟨a, b⟩ := h2 l (hp.mem_iff.mp hm)
  exact ⟨by omega, fun x hx => (sortS_perm ss).mem_iff.mp (b x hx)⟩
theorem lots_ls {ss : List Str} (h : ss.length ≤ 6) (hs : ∀ x ∈ ss, sOk 40 x) : Ls 64 (lotsF ss) := by
  obtain ⟨h1, h2, h3⟩ := lots_facts h
  exact ⟨h1, fun l hl => ⟨by have := (h3 l hl).1; omega, fun x hx => hs x ((h3 l hl).2 x hx)⟩⟩
theorem filter_true {α : Type} (l : List α) : l.filter (fun _ => true) = l := List.filter_eq_self.mpr fun _ _ => rfl
def insB (a b : List Str) : Bool := a.all fun x => decide (x ∈ b)
theorem insB_filter (a b : List Str) : ((a.filter fun x => !decide (x ∈ b)).map PV.str).isEmpty = insB a b := by
  unfold insB
  induction a with
  | nil => rfl
  | cons x r ih =>
    rw [List.filter_cons, List.all_cons]
    cases h : decide (x ∈ b) with
    | true => simpa using ih
    | false => simp
theorem ok_cut {fa fb : M Fl} {Q : Fl → S → Prop} {I : S → Prop} (h1 : Ok fa s (fun fl s' => fl = .nx ∧ I s')) (h2 : ∀ s', I s' → Ok fb s' Q) : Ok (seqM fa fb) s Q := by
  rw [ok_seqM]
  refine h1.imp fun fl s' q => ?_
  rw [q.1]
  exact h2 s' q.2
theorem ok_seq {fa fb : M Fl} {Q : Fl → S → Prop} (h : Ok fa s (fun fl s' => seqK fb s' Q fl)) : Ok (seqM fa fb) s Q := ok_seqM.mpr h
def splitB (every low high : List (List Str)) : Bool := every.all fun lot => !((low.any fun one => insB one lot) == (high.any fun one => insB lot one))
theorem splitB_rev {every low high : List (List Str)} : splitB every low.reverse high.reverse = splitB every low high := by
  unfold splitB
  simp only [List.any_reverse]
theorem filter_any {α : Type} (p : α → Bool) (f : α → PV) (l : List α) : (!((l.filter p).map f).isEmpty) = l.any p := by
  induction l with
  | nil => rfl
  | cons x r ih =>
    rw [List.filter_cons, List.any_cons]
    cases h : p x with
    | true => simp
    | false => simpa using ih
theorem ok_anyM {α : Type} {p : α → Bool} {as : List α} : Ok (lft (anyP (.lst (as.map fun a => .bl (p a))))) s Q ↔ Q (.bl (as.any p)) s := by
  have e : (as.map fun a => PV.bl (p a)) = (as.map p).map PV.bl := by rw [List.map_map]; rfl
  rw [e, ok_anyL, List.any_map]
  rfl
theorem ok_allM {α : Type} {p : α → Bool} {as : List α} : Ok (lft (allP (.lst (as.map fun a => .bl (p a))))) s Q ↔ Q (.bl (as.all p)) s := by
  have e : (as.map fun a => PV.bl (p a)) = (as.map p).map PV.bl := by rw [List.map_map]; rfl
  rw [e, ok_allL, List.all_map]
  rfl
theorem nodup_sub_len : ∀ (a b : List Str), a.Nodup → (∀ x ∈ a, x ∈ b) → a.length ≤ b.length
  | [], b, _, _ => Nat.zero_le _
  | x :: r, b, hn, hs => by
    have hx := hs x List.mem_cons_self
    obtain ⟨h1, h2⟩ := List.nodup_cons.mp hn
    have ih := nodup_sub_len r (b.erase x) h2 fun y hy => (List.mem_erase_of_ne (fun (e : y = x) => h1 (by rw [← e]; exact hy))).mpr (hs y (List.mem_cons_of_mem _ hy))
    rw [List.length_erase_of_mem hx] at ih
    have := List.length_pos_of_mem hx
    rw [List.length_cons]
    omega
theorem word_left {ws nh : List Str} (hn : ws.Nodup) (hl : nh.length < ws.length) : ws.filter (fun x => !decide (x ∈ nh)) ≠ [] := by
  intro e
  have := nodup_sub_len ws nh hn fun x hx => by
    have := List.filter_eq_nil_iff.mp e x hx
    simpa using this
  omega
theorem Ls.app {m k : Nat} {a b : List (List Str)} (h1 : Ls m a) (h2 : Ls k b) : Ls (m + k) (a ++ b) := ⟨by rw [List.length_append]; exact Nat.add_le_add h1.1 h2.1, fun l hl => by
  rcases List.mem_append.mp hl with hl | hl
  · exact h1.2 l hl
  · exact h2.2 l hl⟩
theorem Ls.one {l : List Str} (h : Lt l) : Ls 1 [l] := ⟨Nat.le_refl _, fun x hx => by rw [List.mem_singleton.mp hx]; exact h⟩
theorem cut_lots {ls : List (List Str)} {lo hi : Option Int} : ∃ ls' : List (List Str), cutP (ls.map tT) lo hi = ls'.map tT ∧ ls'.length ≤ ls.length ∧ ∀ l ∈ ls', l ∈ ls := by
  obtain ⟨ls', e, h⟩ := ex_map (f := tT) (P := fun l => l ∈ ls) (ys := cutP (ls.map tT) lo hi) fun y hy => by
    obtain ⟨l, hl, e⟩ := List.mem_map.mp (mem_cut hy)
    exact ⟨l, e.symm, hl⟩
  refine ⟨ls', e, ?_, h⟩
  have := congrArg List.length e
  rw [List.length_map] at this
  rw [← this]
  exact Nat.le_trans cut_len (by rw [List.length_map]; exact Nat.le_refl _)
end
end Dn
namespace Lw
open PySem Dn
open L2 hiding bin
abbrev pen (cells : List Int) (b l : Int) : List (L2.Key × PV) := penD "cells" "begun" "left" cells b l
theorem K3 : Keys3 "cells" "begun" "left" := ⟨by decide +kernel, by decide +kernel, by decide +kernel⟩
theorem pc {cells b l} : valP (penD "cells" "begun" "left" cells b l) (.inr "cells") = some (.lst (cells.map .int)) := pen_c
theorem pb {cells b l} : valP (penD "cells" "begun" "left" cells b l) (.inr "begun") = some (.int b) := pen_b K3
theorem pl {cells b l} : valP (penD "cells" "begun" "left" cells b l) (.inr "left") = some (.int l) := pen_l K3
theorem ppb {cells b l v} : putP (penD "cells" "begun" "left" cells b l) (.inr "begun") (.int v) = penD "cells" "begun" "left" cells v l := pen_put_b K3
theorem ppl {cells b l v} : putP (penD "cells" "begun" "left" cells b l) (.inr "left") (.int v) = penD "cells" "begun" "left" cells b v := pen_put_l K3
theorem plen {kc kb kl : Str} {cells b l} : ((penD kc kb kl cells b l).length < sizeLine) = True := by rw [sizeLine_eq]; simp [penD]
local macro_rules | `(tactic| walk_at "st") => `(tactic| simp only [ok_ret, ok_bnd, ok_bin, ok_binL, ok_binR, ok_var, varK_val, varK_own, ok_brw, brwK_some, pv_val, pv_own, ok_asB, asBK_bl, ok_andT, ok_orT, ok_notT, ok_iteT, ok_andV, ok_orV, ok_notV, blK_bl,
  ok_argN, ok_argC, ok_fits, ok_tupM, ok_lstM, ok_parN, ok_parS, intK_int, ok_slM, ok_revM, lstK_lst, ok_joinM, strK_str, ok_itemsM, ok_rngM, ok_seqM, seqK_nx, seqK_rt, seqK_bk, seqK_ct, ok_ifM, ok_retM, ok_dropM, ok_skipM, ok_asgM, ok_asgO, ok_par2, ok_par2VO, ok_par2OO, ok_par3,
  ok_callM, rtK_rt, rtK_nx, ok_loopM, ok_lcM, ok_dispM, ok_prsN, ok_prsC, ok_hget0, getK_some, ok_hputM, putK0, pc, pb, pl, ppb, ppl, plen, ok_add, ok_addS, ok_addT, ok_addL, ok_sub, ok_mul, ok_ixL, ok_ixT, ok_unp, unpK_tup, ok_set0, ok_setC, ok_app, ok_pop, ok_div, ok_mod, ok_pow, ok_rep, ok_ord, ok_fInt, ok_fAbs, ok_fNeg, ok_lenL, ok_lenT, ok_lenS, ok_fListL, ok_fListT, ok_fTupleL, ok_fTupleT, ok_eqI,
  List.map_cons, List.map_nil, List.replicate_succ, List.replicate_zero, List.cons_append, List.nil_append, List.append_nil, List.getElem?_cons_zero, List.getElem?_cons_succ, List.set_cons_zero, List.set_cons_succ, Nat.reduceSub, decide_eq_true_eq, if_true, if_false, Bool.false_eq_true, List.length_cons, List.length_nil])
theorem sp_pen {n : Nat} {ns : List Int} {st : List MO} {Q : PV → List MO → Prop} (h : Q (.hnd st.length) (st ++ [.dic (pen (cutI ns none (some 63)) 0 0)])) : OkF (m_law_pen n [.scr ns] st) Q := by
  unfold m_law_pen
  refine okF_fn rfl ?_
  unfold b_law_pen
  walk_at "st"
  refine ⟨_, rfl, ?_⟩
  walk_at "st"
  rw [pen_new K3]
  exact ⟨by decide, h⟩
/-- a pen alone in the store, begun at most B times -/
def Pn (cells : List Int) (B : Int) (st : List MO) : Prop := ∃ b l, st = [.dic (pen cells b l)] ∧ 0 ≤ b ∧ b ≤ B ∧ 0 ≤ l
theorem Pn.mono {cells : List Int} {B B' : Int} {st : List MO} (h : Pn cells B st) (hb : B ≤ B') : Pn cells B' st := by
  obtain ⟨b, l, e, h1, h2, h3⟩ := h
  exact ⟨b, l, e, h1, Int.le_trans h2 hb, h3⟩
theorem atI_cell {cells : List Int} {k : Int} (h0 : 0 ≤ k) (h1 : k < cells.length) : ∃ c : Int, L2.atI (cells.map PV.int) k = some (.int c) := by
  obtain ⟨v, e, hm⟩ := atI_in (ds := cells.map PV.int) h0 (by simpa using h1)
  obtain ⟨c, _, rfl⟩ := List.mem_map.mp hm
  exact ⟨c, e⟩
theorem primes5 {b : Int} : ∃ p : Int, L2.atI [PV.int 2147483647, PV.int 2147483629, PV.int 2147483587, PV.int 2147483579, PV.int 2147483563] (b % 5) = some (.int p) ∧ 2147483563 ≤ p ∧ p ≤ 2147483647 := by
  have h0 : 0 ≤ b % 5 := Int.emod_nonneg _ (by decide)
  have h1 : b % 5 < 5 := Int.emod_lt_of_pos _ (by decide)
  generalize b % 5 = r at h0 h1
  have : r = 0 ∨ r = 1 ∨ r = 2 ∨ r = 3 ∨ r = 4 := by omega
  rcases this with rfl | rfl | rfl | rfl | rfl <;> exact ⟨_, rfl, by decide, by decide⟩
theorem cpow18 : L2.CPow 10 18 := by decide +kernel
set_option maxHeartbeats 4000000 in
theorem sp_draw {n : Nat} {k B : Int} {cells : List Int} {st : List MO} {Q : PV → List MO → Prop} (hp : Pn cells B st) (hk : 0 < k ∧ k ≤ 1000000) (hB : B < 1000000000)
    (h : ∀ r st', 0 ≤ r → r < k → Pn cells (B + 1) st' → Q (.int r) st') : OkF (m_law_draw n [.hnd 0, .int k] st) Q := by
  obtain ⟨b, l, rfl, hb, hb2, hl⟩ := hp
  have hr : ∀ x : Int, 0 ≤ x % k ∧ x % k < k := fun x => ⟨Int.emod_nonneg _ (by omega), Int.emod_lt_of_pos _ hk.1⟩
  have h := fun (x b' l' : Int) (h1 : 0 ≤ b') (h2 : b' ≤ B + 1) (h3 : 0 ≤ l') => h (x % k) [.dic (pen cells b' l')] (hr x).1 (hr x).2 ⟨b', l', rfl, h1, h2, h3⟩
  unfold m_law_draw
  refine okF_fn rfl ?_
  unfold b_law_draw
  walk_at "st"
  split
  · rename_i hl0
    exact ⟨hk.1, cdiv100 hk.1 (by omega), True.intro, h _ _ _ (by omega) (by omega) (Int.ediv_nonneg (by omega) (by omega))⟩
  · refine ⟨True.intro, cmul100 (by omega) (by omega), by decide, ?_⟩
    rw [ok_eqNil (toDs_ints _) (shaped_ints _)]
    walk_at "st"
    split
    case' isTrue =>
      rename_i hne
      have hlen : 0 < (cells.map PV.int).length := by
        cases cells with
        | nil => simp at hne
        | cons => simp
      obtain ⟨c, hc⟩ := atI_cell (cells := cells) (k := b % ((cells.map PV.int).length : Int)) (Int.emod_nonneg _ (by omega)) (by rw [← List.length_map (f := PV.int)]; exact Int.emod_lt_of_pos _ (by omega))
      refine ⟨by omega, _, hc, ?_⟩
    all_goals
      try walk_at "st"
      obtain ⟨p, hp, hp1, hp2⟩ := primes5 (b := b)
      have hm : ∀ x : Int, 0 ≤ x % p ∧ x % p < p := fun x => ⟨Int.emod_nonneg _ (by omega), Int.emod_lt_of_pos _ (by omega)⟩
      have hprime : ∀ {Z : PV → Prop}, Z (.int p) → ∃ v, L2.atI [PV.int 2147483647, PV.int 2147483629, PV.int 2147483587, PV.int 2147483579, PV.int 2147483563] (b % 5) = some v ∧ Z v := fun hz => ⟨_, hp, hz⟩
      have hmb : ∀ x : Int, -1267650600228229401496703205376 ≤ x % p ∧ x % p ≤ 1267650600228229401496703205376 := fun x => by have := hm x; omega
      repeat' first
        | exact True.intro
        | exact cdiv100 (by omega) (by omega)
        | exact cmul100 (by first | exact hmb _ | omega) (by first | exact hmb _ | omega)
        | exact cpow18
        | apply And.intro
        | split
        | (refine hprime ?_; walk_at "st")
        | (refine h _ _ _ ?_ ?_ ?_)
        | exact Int.ediv_nonneg (by omega) (by omega)
        | omega
        | decide
end Lw
namespace Lw
open PySem Dn
open L2 hiding bin
local macro_rules | `(tactic| walk_at "st") => `(tactic| simp only [ok_ret, ok_bnd, ok_bin, ok_binL, ok_binR, ok_var, varK_val, varK_own, ok_brw, brwK_some, pv_val, pv_own, ok_asB, asBK_bl, ok_andT, ok_orT, ok_notT, ok_iteT, ok_andV, ok_orV, ok_notV, blK_bl,
  ok_argN, ok_argC, ok_fits, ok_tupM, ok_lstM, ok_parN, ok_parS, intK_int, ok_slM, ok_revM, lstK_lst, ok_joinM, strK_str, ok_itemsM, ok_rngM, ok_seqM, seqK_nx, seqK_rt, seqK_bk, seqK_ct, ok_ifM, ok_retM, ok_dropM, ok_skipM, ok_asgM, ok_asgO, ok_par2, ok_par2VO, ok_par2OO, ok_par3,
  ok_callM, rtK_rt, rtK_nx, ok_loopM, ok_lcM, ok_dispM, ok_prsN, ok_prsC, ok_hget0, getK_some, ok_hputM, putK0, pc, pb, pl, ppb, ppl, plen, ok_add, ok_addS, ok_addT, ok_addL, ok_sub, ok_mul, ok_ixL, ok_ixT, ok_unp, unpK_tup, ok_set0, ok_setC, ok_app, ok_pop, ok_chk', chkK_some, flK_nx, flK_ct, flK_bk, flK_rt, sl_L, sl_T, sl_S, it_L, it_T, ok_sortL, ok_sortT, ok_sortLen, wip, ok_div, ok_mod, ok_pow, ok_rep, ok_ord, ok_fInt, ok_fAbs, ok_fNeg, ok_lenL, ok_lenT, ok_lenS, ok_fListL, ok_fListT, ok_fTupleL, ok_fTupleT, ok_eqI,
  List.map_cons, List.map_nil, List.replicate_succ, List.replicate_zero, List.cons_append, List.nil_append, List.append_nil, List.getElem?_cons_zero, List.getElem?_cons_succ, List.set_cons_zero, List.set_cons_succ, Nat.reduceSub, decide_eq_true_eq, if_true, if_false, Bool.false_eq_true, List.length_cons, List.length_nil])

set_option maxHeartbeats 4000000 in
theorem sp_pickL {n : Nat} {B : Int} {cells : List Int} {st : List MO} {xs : List PV} {Q : PV → List MO → Prop} (hp : Pn cells B st) (hx : 0 < xs.length ∧ xs.length ≤ 1000000) (hB : B < 1000000000)
    (h : ∀ v st', v ∈ xs → Pn cells (B + 1) st' → Q v st') : OkF (m_law_pick n [.hnd 0, .lst xs] st) Q := by
  unfold m_law_pick
  refine okF_fn rfl ?_
  unfold b_law_pick
  walk_at "st"
  refine sp_draw hp (by omega) hB fun r st' h0 h1 hp' => ?_
  walk_at "st"
  obtain ⟨v, e, hm⟩ := atI_in h0 h1
  exact ⟨v, e, h v st' hm hp'⟩
set_option maxHeartbeats 4000000 in
theorem sp_pickS {n : Nat} {B : Int} {cells : List Int} {st : List MO} {x : Str} {Q : PV → List MO → Prop} (hp : Pn cells B st) (hx : 0 < x.length ∧ x.length ≤ 1000000) (hB : B < 1000000000)
    (h : ∀ c st', c ∈ x.cps.toList → Pn cells (B + 1) st' → Q (.str ⟨#[c]⟩) st') : OkF (m_law_pick n [.hnd 0, .str x] st) Q := by
  have hs : x.length ≤ sizeLine := by rw [sizeLine_eq]; omega
  unfold m_law_pick
  refine okF_fn rfl ?_
  unfold b_law_pick
  walk_at "st"
  refine ⟨hs, ?_⟩
  refine sp_draw hp (by omega) hB fun r st' h0 h1 hp' => ?_
  rw [ok_ixS hs]
  have hl : x.cps.toList.length = x.length := by simp [Str.length]
  obtain ⟨c, e, hm⟩ := atI_in (ds := x.cps.toList) h0 (by rw [hl]; exact h1)
  exact ⟨c, e, h c st' hm hp'⟩
set_option maxHeartbeats 4000000 in
theorem sp_shuffled {n k w : Nat} {B : Int} {cells : List Int} {st : List MO} {xs : List PV} {Q : PV → List MO → Prop} (hp : Pn cells B st) (hx : xs.length ≤ 1000) (hB : B < 100000000) (hn : 1000 < n) (hg : ∀ v ∈ xs, Gd k w v) (hk : k ≤ 60)
    (h : ∀ ys st', ys.length = xs.length → (∀ y ∈ ys, y ∈ xs) → Pn cells (B + xs.length) st' → Q (.lst ys) st') : OkF (m_law_shuffled n [.hnd 0, .lst xs] st) Q := by
  have hz : sizeLine = 16777216 := sizeLine_eq
  unfold m_law_shuffled
  refine okF_fn rfl ?_
  unfold b_law_shuffled
  walk_at "st"
  refine ⟨by omega, ?_⟩
  refine ok_while (fun m s => ∃ ps fs, s.env = [some (SV.val (PV.hnd 0)), some (SV.val (PV.lst xs)), some (SV.own ps), some (SV.own fs)] ∧ ps.length = m ∧ ps.length + fs.length = xs.length ∧ (∀ y ∈ ps, y ∈ xs) ∧ (∀ y ∈ fs, y ∈ xs) ∧ Pn cells (B + fs.length) s.sto) (m := xs.length) ⟨xs, [], rfl, rfl, by simp, fun y hy => hy, (fun y hy => by cases hy), by simpa using hp⟩ (by omega) ?_
  rintro m ⟨env, st⟩ ⟨ps, fs, rfl, hm, hl, hps, hfs, hp⟩
  walk_at "st"
  refine ⟨by omega, (ok_eqNilG (fun v hv => hg v (hps v hv)) hk).mpr ?_⟩
  walk_at "st"
  cases ps with
  | nil =>
    have hl : fs.length = xs.length := by simpa using hl
    rw [hl] at hp
    exact h fs st hl hfs hp
  | cons p ps =>
    refine ⟨⟨_, rfl⟩, ⟨_, rfl⟩, ?_⟩
    have hpl : (p :: ps).length ≤ xs.length := by omega
    refine sp_draw hp (by simp at hpl ⊢; omega) (by omega) fun r st' h0 h1 hp' => ?_
    obtain ⟨j, rfl⟩ := Int.eq_ofNat_of_zero_le h0
    have hj : j < (p :: ps).length := by simp at h1 ⊢; omega
    have hz1 := List.getElem?_eq_getElem hj
    have hmem : (p :: ps)[j] ∈ (p :: ps) := List.getElem_mem hj
    generalize (p :: ps)[j] = z at hz1 hmem
    rw [ok_take rfl hz1 (by omega)]
    rw [ok_push rfl (by omega)]
    walk_at "st"
    refine ⟨_, ?_, (p :: ps).eraseIdx j, fs ++ [z], rfl, rfl, ?_, ?_, ?_, ?_⟩
    · rw [List.length_eraseIdx_of_lt hj]; omega
    · rw [List.length_eraseIdx_of_lt hj, List.length_append]; simp at hl ⊢; omega
    · exact fun y hy => hps y (List.mem_of_mem_eraseIdx hy)
    · intro y hy
      rcases List.mem_append.mp hy with hy | hy
      · exact hfs y hy
      · rw [List.mem_singleton.mp hy]; exact hps z hmem
    · refine hp'.mono ?_
      rw [List.length_append]
      simp
      omega
theorem letters_ok : PyData.strOk "abcdefghijklmnopqrstuvwxyz" = true := by decide +kernel
set_option maxHeartbeats 4000000 in
theorem sp_names {n : Nat} {B k : Int} {cells : List Int} {st : List MO} {Q : PV → List MO → Prop} (hp : Pn cells B st) (hB : B < 100000000) (hk : 0 ≤ k ∧ k ≤ 6)
    (h : ∀ (ss : List Str) st', ss.length ≤ 6 → (∀ x ∈ ss, sOk 40 x) → Pn cells (B + 100) st' → Q (.lst (ss.map .str)) st') : OkF (m_law_names n [.hnd 0, .int k] st) Q := by
  have hz : sizeLine = 16777216 := sizeLine_eq
  unfold m_law_names
  refine okF_fn rfl ?_
  unfold b_law_names
  walk_at "st"
  refine sp_draw hp (by omega) (by omega) fun r st1 h0 h1 hp1 => ?_
  walk_at "st"
  split
  · rw [if_pos (by omega)]
    refine ⟨by omega, ?_⟩
    refine sp_draw hp1 (by omega) (by omega) fun r2 st2 h0 h1 hp2 => ?_
    walk_at "st"
    refine ⟨by omega, by omega, ⟨by decide, by rw [hz]; decide⟩, ?_⟩
    refine cut2 40 (by decide +kernel) fun ss e hss => ?_
    refine h ss st2 ?_ hss (hp2.mono (by omega))
    have := congrArg List.length e
    rw [List.length_map] at this
    rw [← this]
    exact Nat.le_trans (cut_to hk.1) (by omega)
  · refine ⟨by omega, ?_⟩
    refine sp_draw hp1 (by omega) (by omega) fun r2 st2 h0 h1 hp2 => ?_
    walk_at "st"
    refine ⟨_, rngP_nat (by omega) (by omega), ?_⟩
    refine ok_lcEach (fun j st => Pn cells (B + 2 + (j : Int)) st) (fun y => ∃ x : Str, y = .str x ∧ (sOk 1 x ∧ x.length = 1)) rfl (by simp) (by rw [rng_len]; omega) (hp2.mono (by omega)) (fun _ => rfl) ?_ ?_
    · intro j x st hx hp
      obtain ⟨rfl, hj⟩ := rng_get hx
      walk_at "st"
      refine sp_pickS hp (by decide) (by omega) fun c st' hc hp' => ?_
      exact ⟨trivial, ⟨_, rfl, sOk_one (strOk_iff.mp letters_ok c hc) (Nat.le_refl _), rfl⟩, hp'.mono (by simp; omega)⟩
    · intro ys st3 hl hy hp3
      obtain ⟨zs, rfl, hzs⟩ := ex_map hy
      rw [rng_len, List.length_map] at hl
      rw [rng_len] at hp3
      have hj : (zs.map (·.length)).sum + zs.length * (Str.ofString "").length ≤ 16777216 := by
        have h1 := sum_le (w := 1) (zs := zs) fun z hz => (hzs z hz).1.2
        have h2 : zs.length * (Str.ofString "").length = 0 := Nat.mul_zero _
        omega
      refine ⟨_, joinP_map hj, ?_⟩
      have hstem : sOk 8 (Txt.join "" zs) := (sOk_join (w := 1) (wa := 0) (fun z hz => (hzs z hz).1) ⟨by decide +kernel, by decide⟩).mono (by omega)
      have hlen : (Txt.join (Str.ofString "") zs).length = zs.length := join_one zs fun z hz => (hzs z hz).2
      generalize Txt.join (Str.ofString "") zs = stem at hstem hlen
      walk_at "st"
      refine ⟨by omega, ?_⟩
      refine sp_draw hp3 (by omega) (by omega) fun at' st4 ha0 ha1 hp4 => ?_
      refine sp_draw hp4 (by omega) (by omega) fun fi st5 hf0 hf1 hp5 => ?_
      refine sp_draw hp5 (by omega) (by omega) fun cu st6 hc0 hc1 hp6 => ?_
      refine ⟨by omega, ?_⟩
      refine sp_pickL hp6 (by decide) (by omega) fun v st7 hv hp7 => ?_
      obtain ⟨g, rfl, hg⟩ : ∃ g : Int, v = .int g ∧ 0 ≤ g ∧ g ≤ 25 := by
        simp only [List.mem_cons, List.not_mem_nil, or_false] at hv
        rcases hv with rfl | rfl | rfl | rfl | rfl | rfl | rfl | rfl | rfl | rfl | rfl | rfl <;> exact ⟨_, rfl, by decide⟩
      refine ⟨_, rngP_nat hk.1 (by omega), ?_⟩
      refine ok_for (fun j s => ∃ e10 e11 fs, s = ⟨[some (SV.val (PV.hnd 0)), some (SV.val (PV.int k)), none, some (SV.val (PV.int fi)), some (SV.val (PV.str (Str.ofString "abcdefghijklmnopqrstuvwxyz"))), some (SV.own (fs.map PV.str)), some (SV.val (PV.str stem)), some (SV.val (PV.int at')), some (SV.val (PV.int cu)), some (SV.val (PV.int g)), e10, e11], st7⟩ ∧ fs.length = j ∧ ∀ x ∈ fs, sOk 40 x) ⟨none, none, [], rfl, rfl, fun x hx => by cases hx⟩ ?_ ?_
      · rintro j x s hx ⟨e10, e11, fs, rfl, hfl, hfs⟩
        obtain ⟨rfl, hj⟩ := rng_get hx
        walk_at "st"
        obtain ⟨tl, htl⟩ : ∃ t : Int, L2.atI [PV.int 8, PV.int ((j : Int) % 3)] cu = some (.int t) := by
          have : cu = 0 ∨ cu = 1 := by omega
          rcases this with rfl | rfl <;> exact ⟨_, rfl⟩
        have hs1 : sOk 8 (L2.cutS stem (some (at' + 1)) none) := sOk_cut hstem
        have hs2 : sOk 8 (L2.cutS stem none (some at')) := sOk_cut hstem
        have hs3 : sOk 8 (L2.cutS (L2.cutS stem (some (at' + 1)) none) none (some tl)) := sOk_cut hs1
        have hs1l := hs1.2
        have hs2l := hs2.2
        have hs3l := hs3.2
        have hlt : (Str.ofString "abcdefghijklmnopqrstuvwxyz").length ≤ sizeLine := by rw [hz]; decide
        refine ⟨by omega, by decide, by omega, _, htl, ?_⟩
        walk_at "st"
        refine ⟨by omega, ⟨_, rfl⟩, by omega, cmul100 (by omega) (by omega), by decide, ?_⟩
        rw [ok_ixS hlt]
        obtain ⟨c, hc, hcm⟩ := atI_in (ds := (Str.ofString "abcdefghijklmnopqrstuvwxyz").cps.toList) (k := (fi + g * (j : Int)) % 26) (Int.emod_nonneg _ (by decide)) (Int.emod_lt_of_pos _ (by decide))
        refine ⟨c, hc, ?_⟩
        have hc1 : sOk 1 ⟨#[c]⟩ := sOk_one (strOk_iff.mp letters_ok c hcm) (Nat.le_refl _)
        have hs4 := sOk_app hs2 hc1
        have hs5 := sOk_app hs4 hs3
        have hs4l := hs4.2
        have hc1l := hc1.2
        walk_at "st"
        refine ⟨by omega, by omega, ?_⟩
        rw [ok_push rfl (by rw [List.length_map]; omega)]
        walk_at "st"
        refine ⟨_, _, fs ++ [_], by rw [List.map_append]; rfl, by rw [List.length_append, hfl]; rfl, fun x hx => ?_⟩
        rcases List.mem_append.mp hx with hx | hx
        · exact hfs x hx
        · rw [List.mem_singleton.mp hx]; exact hs5.mono (by decide)
      · rintro s ⟨e10, e11, fs, rfl, hfl, hfs⟩
        walk_at "st"
        refine h fs st7 ?_ hfs (hp7.mono (by omega))
        rw [hfl, rng_len]
        omega
end Lw
namespace Lw
open PySem Dn
open L2 hiding bin
local macro_rules | `(tactic| walk_at "st") => `(tactic| try simp only [ok_ret, ok_bnd, ok_bin, ok_binL, ok_binR, ok_var, varK_val, varK_own, ok_brw, brwK_some, pv_val, pv_own, ok_asB, asBK_bl, ok_andT, ok_orT, ok_notT, ok_iteT, ok_andV, ok_orV, ok_notV, blK_bl,
  ok_argN, ok_argC, ok_fits, ok_tupM, ok_lstM, ok_parN, ok_parS, intK_int, ok_slM, ok_revM, lstK_lst, ok_joinM, strK_str, ok_itemsM, ok_rngM, ok_seqM, seqK_nx, seqK_rt, seqK_bk, seqK_ct, ok_ifM, ok_retM, ok_dropM, ok_skipM, ok_asgM, ok_asgO, ok_par2, ok_par2VO, ok_par2OO, ok_par3,
  ok_callM, rtK_rt, rtK_nx, ok_loopM, ok_lcM, ok_dispM, ok_prsN, ok_prsC, ok_hget0, getK_some, ok_hputM, putK0, pc, pb, pl, ppb, ppl, plen, ok_add, ok_addS, ok_addT, ok_addL, ok_sub, ok_mul, ok_ixL, ok_ixT, ok_unp, unpK_tup, ok_set0, ok_setC, ok_app, ok_pop, ok_chk', chkK_some, flK_nx, flK_ct, flK_bk, flK_rt, sl_L, sl_T, sl_S, it_L, it_T, ok_sortL, ok_sortT, ok_sortLen, wip, ok_div, ok_mod, ok_pow, ok_rep, ok_ord, ok_fInt, ok_fAbs, ok_fNeg, ok_lenL, ok_lenT, ok_lenS, ok_fListL, ok_fListT, ok_fTupleL, ok_fTupleT, ok_eqI,
  List.map_cons, List.map_nil, List.replicate_succ, List.replicate_zero, List.cons_append, List.nil_append, List.append_nil, List.getElem?_cons_zero, List.getElem?_cons_succ, List.set_cons_zero, List.set_cons_succ, Nat.reduceSub, decide_eq_true_eq, if_true, if_false, Bool.false_eq_true, List.length_cons, List.length_nil])

set_option maxHeartbeats 4000000 in
theorem eq_lots0 {n : Nat} {arg : PV} {ss : List Str} {st : List MO} (ha : arg = .lst (ss.map .str) ∨ arg = .tup (ss.map .str)) (h : ss.length ≤ 6) : m_law_lots n [arg] st = .ok (lL (lotsF ss)) st := by
  have hz : sizeLine = 16777216 := sizeLine_eq
  refine OkF.eq ?_
  unfold m_law_lots
  refine okF_fn rfl ?_
  unfold b_law_lots
  walk_at "st"
  refine ⟨by omega, by omega, ?_⟩
  have key : ∀ {QL : List PV → S → Prop} {s : S}, QL ((sortS ss).map .str) s → Ok (lft (sortP arg)) s QL := fun {QL s} hq => by
    rcases ha with rfl | rfl
    · exact ok_sortL.mpr hq
    · exact ok_sortT.mpr hq
  refine key ?_
  walk_at "st"
  refine ok_for (fun j s => ∃ e2 e3, s = ⟨[some (SV.val arg), some (SV.val (lL (dbl ((sortS ss).take j)))), e2, e3], st⟩) ⟨none, none, rfl⟩ ?_ ?_
  · rintro j x s hx ⟨e2, e3, rfl⟩
    rw [List.getElem?_map] at hx
    obtain ⟨name, hx2, rfl⟩ := Option.map_eq_some_iff.mp hx
    have hj : j < (sortS ss).length := (List.getElem?_eq_some_iff.mp hx2).1
    have hjs : (sortS ss).length = ss.length := sortS_length ss
    have ht : (sortS ss).take (j + 1) = (sortS ss).take j ++ [name] := by
      rw [List.take_succ, hx2]
      rfl
    obtain ⟨f1, f2⟩ := dbl_facts j ((sortS ss).take j) (by rw [List.length_take]; omega)
    have hle : 2 ^ j ≤ 2 ^ 6 := Nat.pow_le_pow_right (by decide) (by omega)
    rw [ht, dbl_snoc]
    generalize dbl ((sortS ss).take j) = found at f1 f2
    walk_at "st"
    unfold lL
    walk_at "st"
    refine ok_lcT tT (fun _ => true) (fun l => tT (l ++ [name])) rfl (by simp) (by omega) (fun _ => rfl) (fun l hl => ?_) (fun l hl _ => ?_) ?_
    · walk_at "st"
      exact ⟨trivial, trivial⟩
    · walk_at "st"
      unfold tT
      walk_at "st"
      have := (f2 l hl).1
      refine ⟨by omega, by rw [List.length_map]; omega, by rw [List.map_append]; rfl, trivial⟩
    · walk_at "st"
      rw [filter_true]
      refine ⟨by rw [List.length_map, List.length_map]; omega, some (SV.val (PV.str name)), none, ?_⟩
      rw [List.map_append, List.map_map]
      rfl
  · rintro s ⟨e2, e3, rfl⟩
    walk_at "st"
    rw [List.length_map, List.take_length]
    exact ⟨rfl, trivial⟩
theorem eq_lots {n : Nat} {ss : List Str} {st : List MO} (h : ss.length ≤ 6) : m_law_lots n [.lst (ss.map .str)] st = .ok (lL (lotsF ss)) st := eq_lots0 (.inl rfl) h
theorem eq_allL {n : Nat} {ss : List Str} {st : List MO} (h : ss.length ≤ 6) : m_all_lots n [.lst (ss.map .str)] st = .ok (lL (lotsF ss)) st := eq_lots0 (.inl rfl) h
theorem eq_allT {n : Nat} {ss : List Str} {st : List MO} (h : ss.length ≤ 6) : m_all_lots n [.tup (ss.map .str)] st = .ok (lL (lotsF ss)) st := eq_lots0 (.inr rfl) h
set_option maxHeartbeats 4000000 in
theorem eq_inside {n : Nat} {a b : List Str} {st : List MO} (ha : Lt a) : m_law_inside n [tT a, tT b] st = .ok (.bl (insB a b)) st := by
  have hz : sizeLine = 16777216 := sizeLine_eq
  have hal := ha.1
  refine OkF.eq ?_
  unfold m_law_inside
  refine okF_fn rfl ?_
  unfold b_law_inside tT
  walk_at "st"
  refine ok_lcT .str (fun x => !decide (x ∈ b)) .str rfl (by simp) (by omega) (fun _ => rfl) (fun l hl => ?_) (fun l hl _ => ?_) ?_
  · walk_at "st"
    exact ok_inT.mpr ⟨rfl, rfl⟩
  · walk_at "st"
    exact ⟨trivial, trivial⟩
  · refine ⟨by omega, (ok_eqNilG (n := 0) (w := 40) (fun v hv => ?_) (by decide)).mpr ?_⟩
    · obtain ⟨x, hx, rfl⟩ := List.mem_map.mp hv
      exact (ha.2 x (List.mem_filter.mp hx).1).gd
    · walk_at "st"
      rw [insB_filter]
      exact ⟨rfl, trivial⟩
set_option maxHeartbeats 4000000 in
theorem eq_within {n : Nat} {a b : List Str} {st : List MO} (ha : Lt a) : m_is_within n [tT a, tT b] st = .ok (.bl (insB a b)) st := by
  have hz : sizeLine = 16777216 := sizeLine_eq
  have hal := ha.1
  refine OkF.eq ?_
  unfold m_is_within
  refine okF_fn rfl ?_
  unfold b_is_within tT
  walk_at "st"
  refine ok_lcT .str (fun _ => true) (fun x => .bl (decide (x ∈ b))) rfl (by simp) (by omega) (fun _ => rfl) (fun l hl => ?_) (fun l hl _ => ?_) ?_
  · walk_at "st"
    exact ⟨trivial, trivial⟩
  · walk_at "st"
    exact ok_inT.mpr ⟨rfl, rfl⟩
  · rw [filter_true]
    have e : (a.map fun x => PV.bl (decide (x ∈ b))) = (a.map fun x => decide (x ∈ b)).map PV.bl := by rw [List.map_map]; rfl
    rw [e]
    refine ok_allL.mpr ?_
    walk_at "st"
    refine ⟨?_, trivial⟩
    unfold insB
    rw [List.all_map]
    rfl
end Lw
namespace Lw
open PySem Dn
open L2 hiding bin
local macro_rules | `(tactic| walk_at "st") => `(tactic| try simp only [ok_ret, ok_bnd, ok_bin, ok_binL, ok_binR, ok_var, varK_val, varK_own, ok_brw, brwK_some, pv_val, pv_own, ok_asB, asBK_bl, ok_andT, ok_orT, ok_notT, ok_iteT, ok_andV, ok_orV, ok_notV, blK_bl,
  ok_argN, ok_argC, ok_fits, ok_tupM, ok_lstM, ok_parN, ok_parS, intK_int, ok_slM, ok_revM, lstK_lst, ok_joinM, strK_str, ok_itemsM, ok_rngM, ok_seqM, seqK_nx, seqK_rt, seqK_bk, seqK_ct, ok_ifM, ok_retM, ok_dropM, ok_skipM, ok_asgM, ok_asgO, ok_par2, ok_par2VO, ok_par2OO, ok_par3,
  ok_callM, rtK_rt, rtK_nx, ok_loopM, ok_lcM, ok_dispM, ok_prsN, ok_prsC, ok_hget0, getK_some, ok_hputM, putK0, pc, pb, pl, ppb, ppl, plen, ok_add, ok_addS, ok_addT, ok_addL, ok_sub, ok_mul, ok_ixL, ok_ixT, ok_unp, unpK_tup, ok_set0, ok_setC, ok_app, ok_pop, ok_chk', chkK_some, flK_nx, flK_ct, flK_bk, flK_rt, sl_L, sl_T, sl_S, it_L, it_T, ok_sortL, ok_sortT, ok_sortLen, wip, ok_div, ok_mod, ok_pow, ok_rep, ok_ord, ok_fInt, ok_fAbs, ok_fNeg, ok_lenL, ok_lenT, ok_lenS, ok_fListL, ok_fListT, ok_fTupleL, ok_fTupleT, ok_eqI,
  List.map_cons, List.map_nil, List.replicate_succ, List.replicate_zero, List.cons_append, List.nil_append, List.append_nil, List.getElem?_cons_zero, List.getElem?_cons_succ, List.set_cons_zero, List.set_cons_succ, Nat.reduceSub, decide_eq_true_eq, if_true, if_false, Bool.false_eq_true, List.length_cons, List.length_nil])

local macro_rules | `(tactic| walk_at "sx") => `(tactic| try simp only [ok_ret, ok_bnd, ok_bin, ok_binL, ok_binR, ok_var, varK_val, varK_own, ok_brw, brwK_some, pv_val, pv_own, ok_asB, asBK_bl, ok_andT, ok_orT, ok_notT, ok_iteT, ok_andV, ok_orV, ok_notV, blK_bl,
  ok_argN, ok_argC, ok_fits, ok_tupM, ok_lstM, ok_parN, ok_parS, intK_int, ok_slM, ok_revM, lstK_lst, ok_joinM, strK_str, ok_itemsM, ok_rngM, seqK_nx, seqK_rt, seqK_bk, seqK_ct, ok_ifM, ok_retM, ok_dropM, ok_skipM, ok_asgM, ok_asgO, ok_par2, ok_par2VO, ok_par2OO, ok_par3,
  ok_callM, rtK_rt, rtK_nx, ok_loopM, ok_lcM, ok_dispM, ok_prsN, ok_prsC, ok_hget0, getK_some, ok_hputM, putK0, pc, pb, pl, ppb, ppl, plen, ok_add, ok_addS, ok_addT, ok_addL, ok_sub, ok_mul, ok_ixL, ok_ixT, ok_unp, unpK_tup, ok_set0, ok_setC, ok_app, ok_pop, ok_chk', chkK_some, flK_nx, flK_ct, flK_bk, flK_rt, sl_L, sl_T, sl_S, it_L, it_T, ok_sortL, ok_sortT, ok_sortLen, wip, ok_div, ok_mod, ok_pow, ok_rep, ok_ord, ok_fInt, ok_fAbs, ok_fNeg, ok_lenL, ok_lenT, ok_lenS, ok_fListL, ok_fListT, ok_fTupleL, ok_fTupleT, ok_eqI,
  List.map_cons, List.map_nil, List.replicate_succ, List.replicate_zero, List.cons_append, List.nil_append, List.append_nil, List.getElem?_cons_zero, List.getElem?_cons_succ, List.set_cons_zero, List.set_cons_succ, Nat.reduceSub, decide_eq_true_eq, if_true, if_false, Bool.false_eq_true, List.length_cons, List.length_nil])

set_option maxHeartbeats 4000000 in
theorem eq_due {n : Nat} {every low high : List (List Str)} {st : List MO} (h1 : Ls 64 every) (h2 : Ls 100 low) (h3 : Ls 100 high) : m_law_due n [lL every, lL low, lL high] st = .ok (.bl (splitB every low high)) st := by
  have hz : sizeLine = 16777216 := sizeLine_eq
  have hl2 := h2.1
  have hl3 := h3.1
  refine OkF.eq ?_
  unfold m_law_due
  refine okF_fn rfl ?_
  unfold b_law_due
  refine ok_seq ?_
  walk_at "sx"
  refine ok_for (fun j s => (∃ e3 e4, s = ⟨[some (SV.val (lL every)), some (SV.val (lL low)), some (SV.val (lL high)), e3, e4, none], st⟩) ∧ (every.take j).all (fun lot => !((low.any fun one => insB one lot) == (high.any fun one => insB lot one))) = true) ⟨⟨none, none, rfl⟩, rfl⟩ ?_ ?_
  · rintro j x s hx ⟨⟨e3, e4, rfl⟩, hI⟩
    rw [List.getElem?_map] at hx
    obtain ⟨lot, hx2, rfl⟩ := Option.map_eq_some_iff.mp hx
    have hm : lot ∈ every := List.mem_of_getElem? hx2
    have hlot := h1.2 lot hm
    have ht : every.take (j + 1) = every.take j ++ [lot] := by
      rw [List.take_succ, hx2]
      rfl
    rw [ht, List.all_append, hI]
    refine ok_seq ?_
    walk_at "sx"
    refine ok_lcT tT (fun one => insB one lot) tT rfl (by simp) (by omega) (fun _ => rfl) (fun l hl => ?_) (fun l hl _ => ?_) ?_
    · walk_at "st"
      refine OkF.of (eq_inside (h2.2 l hl)) ?_
      walk_at "st"
      exact ⟨trivial, trivial⟩
    · walk_at "st"
      exact ⟨trivial, trivial⟩
    refine ⟨by omega, (ok_eqNilG (n := 1) (w := 300) (fun v hv => ?_) (by decide)).mpr ?_⟩
    · obtain ⟨l, hl, rfl⟩ := List.mem_map.mp hv
      exact (h2.2 l (List.mem_filter.mp hl).1).gd
    rw [if_pos rfl, filter_any]
    walk_at "st"
    refine ok_lcT tT (fun one => insB lot one) tT rfl (by simp) (by omega) (fun _ => rfl) (fun l hl => ?_) (fun l hl _ => ?_) ?_
    · walk_at "st"
      refine OkF.of (eq_inside hlot) ?_
      walk_at "st"
      exact ⟨trivial, trivial⟩
    · walk_at "st"
      exact ⟨trivial, trivial⟩
    refine ⟨by omega, (ok_eqNilG (n := 1) (w := 300) (fun v hv => ?_) (by decide)).mpr ?_⟩
    · obtain ⟨l, hl, rfl⟩ := List.mem_map.mp hv
      exact (h3.2 l (List.mem_filter.mp hl).1).gd
    rw [if_pos rfl, filter_any]
    refine ok_eqB.mpr ?_
    walk_at "st"
    split
    · rename_i hb
      refine ⟨?_, trivial⟩
      unfold splitB
      have : every.all (fun lot => !((low.any fun one => insB one lot) == (high.any fun one => insB lot one))) = false := by
        rw [List.all_eq_false]
        exact ⟨lot, hm, by rw [hb]; decide⟩
      rw [this]
    · rename_i hb
      exact ⟨⟨_, _, rfl⟩, by simpa using hb⟩
  · rintro s ⟨⟨e3, e4, rfl⟩, hI⟩
    walk_at "st"
    rw [List.length_map, List.take_length] at hI
    refine ⟨?_, trivial⟩
    unfold splitB
    rw [hI]
set_option maxHeartbeats 4000000 in
theorem eq_split {n : Nat} {every low high : List (List Str)} {names A D : PV} {st : List MO} (hn : m_all_lots n [names] st = .ok (lL every) st) (hA : itemsP A = some (low.map tT)) (hD : itemsP D = some (high.map tT))
    (h1 : Ls 64 every) (h2 : Ls 100 low) (h3 : Ls 100 high) : m_is_split n [names, A, D] st = .ok (.bl (splitB every low high)) st := by
  have hz : sizeLine = 16777216 := sizeLine_eq
  have hl2 := h2.1
  have hl3 := h3.1
  refine OkF.eq ?_
  unfold m_is_split
  refine okF_fn rfl ?_
  unfold b_is_split
  refine ok_seq ?_
  walk_at "sx"
  refine OkF.of hn ?_
  walk_at "sx"
  refine ok_for (fun j s => (∃ e3, s = ⟨[some (SV.val names), some (SV.val A), some (SV.val D), e3, none], st⟩) ∧ (every.take j).all (fun lot => !((low.any fun one => insB one lot) == (high.any fun one => insB lot one))) = true) ⟨⟨none, rfl⟩, rfl⟩ ?_ ?_
  · rintro j x s hx ⟨⟨e3, rfl⟩, hI⟩
    rw [List.getElem?_map] at hx
    obtain ⟨lot, hx2, rfl⟩ := Option.map_eq_some_iff.mp hx
    have hm : lot ∈ every := List.mem_of_getElem? hx2
    have hlot := h1.2 lot hm
    have ht : every.take (j + 1) = every.take j ++ [lot] := by
      rw [List.take_succ, hx2]
      rfl
    rw [ht, List.all_append, hI]
    walk_at "st"
    refine ⟨_, hA, ?_⟩
    refine ok_lcT tT (fun _ => true) (fun one => .bl (insB one lot)) rfl (by simp) (by omega) (fun _ => rfl) (fun l hl => ?_) (fun l hl _ => ?_) ?_
    · walk_at "st"
      exact ⟨trivial, trivial⟩
    · walk_at "st"
      refine OkF.of (eq_within (h2.2 l hl)) ?_
      exact ⟨rfl, rfl⟩
    rw [filter_true]
    refine ok_anyM.mpr ?_
    walk_at "st"
    refine ⟨_, hD, ?_⟩
    refine ok_lcT tT (fun _ => true) (fun one => .bl (insB lot one)) rfl (by simp) (by omega) (fun _ => rfl) (fun l hl => ?_) (fun l hl _ => ?_) ?_
    · walk_at "st"
      exact ⟨trivial, trivial⟩
    · walk_at "st"
      refine OkF.of (eq_within hlot) ?_
      exact ⟨rfl, rfl⟩
    rw [filter_true]
    refine ok_anyM.mpr ?_
    refine ok_eqB.mpr ?_
    walk_at "st"
    split
    · rename_i hb
      refine ⟨?_, trivial⟩
      unfold splitB
      have : every.all (fun lot => !((low.any fun one => insB one lot) == (high.any fun one => insB lot one))) = false := by
        rw [List.all_eq_false]
        exact ⟨lot, hm, by simpa using hb⟩
      rw [this]
    · rename_i hb
      exact ⟨⟨_, rfl⟩, by simpa using hb⟩
  · rintro s ⟨⟨e3, rfl⟩, hI⟩
    walk_at "st"
    rw [List.length_map, List.take_length] at hI
    refine ⟨?_, trivial⟩
    unfold splitB
    rw [hI]
end Lw
namespace Lw
open PySem Dn
open L2 hiding bin
local macro_rules | `(tactic| walk_at "st") => `(tactic| try simp only [ok_ret, ok_bnd, ok_bin, ok_binL, ok_binR, ok_var, varK_val, varK_own, ok_brw, brwK_some, pv_val, pv_own, ok_asB, asBK_bl, ok_andT, ok_orT, ok_notT, ok_iteT, ok_andV, ok_orV, ok_notV, blK_bl,
  ok_argN, ok_argC, ok_fits, ok_tupM, ok_lstM, ok_parN, ok_parS, intK_int, ok_slM, ok_revM, lstK_lst, ok_joinM, strK_str, ok_itemsM, ok_rngM, ok_seqM, seqK_nx, seqK_rt, seqK_bk, seqK_ct, ok_ifM, ok_retM, ok_dropM, ok_skipM, ok_asgM, ok_asgO, ok_par2, ok_par2VO, ok_par2OO, ok_par3,
  ok_callM, rtK_rt, rtK_nx, ok_loopM, ok_lcM, ok_dispM, ok_prsN, ok_prsC, ok_hget0, getK_some, ok_hputM, putK0, pc, pb, pl, ppb, ppl, plen, ok_add, ok_addS, ok_addT, ok_addL, ok_sub, ok_mul, ok_ixL, ok_ixT, ok_unp, unpK_tup, ok_set0, ok_setC, ok_app, ok_pop, ok_chk', chkK_some, flK_nx, flK_ct, flK_bk, flK_rt, sl_L, sl_T, sl_S, it_L, it_T, ok_sortL, ok_sortT, ok_sortLen, wip, ok_div, ok_mod, ok_pow, ok_rep, ok_ord, ok_fInt, ok_fAbs, ok_fNeg, ok_lenL, ok_lenT, ok_lenS, ok_fListL, ok_fListT, ok_fTupleL, ok_fTupleT, ok_eqI,
  List.map_cons, List.map_nil, List.replicate_succ, List.replicate_zero, List.cons_append, List.nil_append, List.append_nil, List.getElem?_cons_zero, List.getElem?_cons_succ, List.set_cons_zero, List.set_cons_succ, Nat.reduceSub, decide_eq_true_eq, if_true, if_false, Bool.false_eq_true, List.length_cons, List.length_nil])

local macro_rules | `(tactic| walk_at "sx") => `(tactic| try simp only [ok_ret, ok_bnd, ok_bin, ok_binL, ok_binR, ok_var, varK_val, varK_own, ok_brw, brwK_some, pv_val, pv_own, ok_asB, asBK_bl, ok_andT, ok_orT, ok_notT, ok_iteT, ok_andV, ok_orV, ok_notV, blK_bl,
  ok_argN, ok_argC, ok_fits, ok_tupM, ok_lstM, ok_parN, ok_parS, intK_int, ok_slM, ok_revM, lstK_lst, ok_joinM, strK_str, ok_itemsM, ok_rngM, seqK_nx, seqK_rt, seqK_bk, seqK_ct, ok_ifM, ok_retM, ok_dropM, ok_skipM, ok_asgM, ok_asgO, ok_par2, ok_par2VO, ok_par2OO, ok_par3,
  ok_callM, rtK_rt, rtK_nx, ok_loopM, ok_lcM, ok_dispM, ok_prsN, ok_prsC, ok_hget0, getK_some, ok_hputM, putK0, pc, pb, pl, ppb, ppl, plen, ok_add, ok_addS, ok_addT, ok_addL, ok_sub, ok_mul, ok_ixL, ok_ixT, ok_unp, unpK_tup, ok_set0, ok_setC, ok_app, ok_pop, ok_chk', chkK_some, flK_nx, flK_ct, flK_bk, flK_rt, sl_L, sl_T, sl_S, it_L, it_T, ok_sortL, ok_sortT, ok_sortLen, wip, ok_div, ok_mod, ok_pow, ok_rep, ok_ord, ok_fInt, ok_fAbs, ok_fNeg, ok_lenL, ok_lenT, ok_lenS, ok_fListL, ok_fListT, ok_fTupleL, ok_fTupleT, ok_eqI,
  List.map_cons, List.map_nil, List.replicate_succ, List.replicate_zero, List.cons_append, List.nil_append, List.append_nil, List.getElem?_cons_zero, List.getElem?_cons_succ, List.set_cons_zero, List.set_cons_succ, Nat.reduceSub, decide_eq_true_eq, if_true, if_false, Bool.false_eq_true, List.length_cons, List.length_nil])

set_option maxHeartbeats 4000000 in
theorem sp_family {n : Nat} {B : Int} {cells : List Int} {st : List MO} {every : List (List Str)} {Q : PV → List MO → Prop} (hp : Pn cells B st) (hB : B < 100000000) (h1 : Ls 64 every) (hne : every ≠ [])
    (h : ∀ fam st', fam.length ≤ every.length → (∀ l ∈ fam, l ∈ every) → Pn cells (B + 4) st' → Q (lL fam) st') : OkF (m_law_family n [.hnd 0, lL every] st) Q := by
  have hz : sizeLine = 16777216 := sizeLine_eq
  have hl := h1.1
  have hpos : 0 < (every.map tT).length := by
    rw [List.length_map]
    exact List.length_pos_iff.mpr hne
  unfold m_law_family
  refine okF_fn rfl ?_
  unfold b_law_family
  refine ok_seq ?_
  walk_at "sx"
  refine sp_draw hp (by omega) (by omega) fun r st1 h0 h1' hp1 => ?_
  refine ⟨_, rngP_nat h0 (by omega), ?_⟩
  refine ok_lcEach (fun j st => Pn cells (B + 1 + (j : Int)) st) (fun y => ∃ l : List Str, y = tT l ∧ l ∈ every) rfl (by simp) (by rw [rng_len]; omega) (hp1.mono (by omega)) (fun _ => rfl) ?_ ?_
  · intro j x st hx hp
    obtain ⟨rfl, hj⟩ := rng_get hx
    walk_at "st"
    refine sp_pickL hp ⟨hpos, by rw [List.length_map]; omega⟩ (by omega) fun v st' hv hp' => ?_
    obtain ⟨l, hl, rfl⟩ := List.mem_map.mp hv
    exact ⟨trivial, ⟨l, rfl, hl⟩, hp'.mono (by simp; omega)⟩
  · intro ys st3 hl3 hy hp3
    rw [rng_len] at hl3 hp3
    obtain ⟨some', rfl, hsome⟩ := ex_map hy
    rw [List.length_map] at hl3
    walk_at "st"
    refine ok_lcSub tT (by simp) rfl (by simp) (by omega) (fun _ => rfl) (fun l hl => ?_) ?_
    · walk_at "st"
      refine ok_lcSub tT (by simp) rfl (by simp) (by omega) (fun _ => rfl) (fun l2 hl2 => ?_) ?_
      · walk_at "st"
        refine OkF.of (eq_inside (h1.2 l2 (hsome l2 hl2))) ?_
        walk_at "st"
      · intro as' ha1 ha2
        refine ⟨by omega, (ok_eqNilG (n := 1) (w := 300) (fun v hv => ?_) (by decide)).mpr ?_⟩
        · obtain ⟨l, hl, rfl⟩ := List.mem_map.mp hv
          exact (h1.2 l (hsome l (ha2 l hl))).gd
        · walk_at "st"
    · intro fam hf1 hf2
      walk_at "st"
      exact h fam st3 hf1 hf2 (hp3.mono (by omega))
abbrev lenv (every fam rest low high : List (List Str)) (way : Int) (nh : List Str) (other : Str) : Dn.Env := [some (SV.val (PV.hnd 0)), some (SV.val (lL every)), some (SV.val (lL fam)), some (SV.val (lL rest)), some (SV.val (lL low)), some (SV.val (lL high)), some (SV.val (PV.int way)), some (SV.val (tT nh)), some (SV.val (PV.str other)), none, none, none]
def LJ (every fam rest : List (List Str)) (way : Int) (nh : List Str) (other : Str) (cells : List Int) (m : Nat) (B : Int) (s : S) : Prop := ∃ low high st, s = ⟨lenv every fam rest low high way nh other, st⟩ ∧ Ls m low ∧ Ls m high ∧ Pn cells B st
set_option maxHeartbeats 8000000 in
theorem sp_lists {n : Nat} {B : Int} {cells : List Int} {st : List MO} {every : List (List Str)} {Q : PV → List MO → Prop} (hp : Pn cells B st) (hB : B < 10000000) (hn : 1000 < n) (h1 : Ls 64 every) (h6 : ∀ l ∈ every, l.length ≤ 6) (hne : every ≠ [])
    (h : ∀ low high st', Ls 100 low → Ls 100 high → Pn cells (B + 300) st' → Q (.tup [lL low, lL high]) st') : OkF (m_law_lists n [.hnd 0, lL every] st) Q := by
  have hz : sizeLine = 16777216 := sizeLine_eq
  have hl := h1.1
  have hpos : 0 < (every.map tT).length := by
    rw [List.length_map]
    exact List.length_pos_iff.mpr hne
  unfold m_law_lists
  refine okF_fn rfl ?_
  unfold b_law_lists
  refine ok_seq ?_
  walk_at "sx"
  refine sp_family hp (by omega) h1 hne fun fam st1 hf1 hf2 hp1 => ?_
  have hfam : Ls 64 fam := h1.sub hf1 hf2
  have hfl := hfam.1
  walk_at "sx"
  refine ok_seq ?_
  walk_at "sx"
  refine ok_lcSub tT (by simp) rfl (by simp) (by omega) (fun _ => rfl) (fun l hl => ?_) ?_
  · walk_at "st"
    refine ok_inG (n := 1) (w := 300) (n' := 1) (w' := 300) (h1.2 l hl).gd hfam.gd (by decide) (by decide) fun b => ?_
    walk_at "st"
  intro rest hr1 hr2
  have hrest : Ls 64 rest := h1.sub hr1 hr2
  have hrl := hrest.1
  walk_at "sx"
  refine ok_seq ?_
  walk_at "sx"
  refine ok_lcSub tT (by simp) rfl (by simp) (by omega) (fun _ => rfl) (fun l hl => ?_) ?_
  · walk_at "st"
    refine ok_lcSub tT (by simp) rfl (by simp) (by omega) (fun _ => rfl) (fun l2 hl2 => ?_) ?_
    · walk_at "st"
      refine ok_eqG (n := 1) (w := 300) (n' := 1) (w' := 300) (hfam.2 l2 hl2).gd (hfam.2 l hl).gd (by decide) (by decide) fun b => ?_
      walk_at "st"
      split
      · refine OkF.of (eq_inside (hfam.2 l2 hl2)) ?_
        walk_at "st"
      · trivial
    · intro as' ha1 ha2
      refine ⟨by omega, (ok_eqNilG (n := 1) (w := 300) (hfam.sub ha1 ha2).gd (by decide)).mpr ?_⟩
      walk_at "st"
  intro low0 hlo1 hlo2
  have hlow0 : Ls 64 low0 := hfam.sub hlo1 hlo2
  walk_at "sx"
  refine ok_seq ?_
  walk_at "sx"
  refine ok_lcSub tT (by simp) rfl (by simp) (by omega) (fun _ => rfl) (fun l hl => ?_) ?_
  · walk_at "st"
    refine ok_lcSub tT (by simp) rfl (by simp) (by omega) (fun _ => rfl) (fun l2 hl2 => ?_) ?_
    · walk_at "st"
      refine ok_eqG (n := 1) (w := 300) (n' := 1) (w' := 300) (hrest.2 l2 hl2).gd (hrest.2 l hl).gd (by decide) (by decide) fun b => ?_
      walk_at "st"
      split
      · refine OkF.of (eq_inside (hrest.2 l hl)) ?_
        walk_at "st"
      · trivial
    · intro as' ha1 ha2
      refine ⟨by omega, (ok_eqNilG (n := 1) (w := 300) (hrest.sub ha1 ha2).gd (by decide)).mpr ?_⟩
      walk_at "st"
  intro high0 hhi1 hhi2
  have hhigh0 : Ls 64 high0 := hrest.sub hhi1 hhi2
  walk_at "sx"
  refine ok_seq ?_
  walk_at "sx"
  refine ⟨by omega, ?_⟩
  refine sp_pickL hp1 (by simp) (by omega) fun v st2 hv hp2 => ?_
  obtain ⟨low, rfl, hlow⟩ : ∃ low, v = lL low ∧ Ls 64 low := by
    simp only [List.mem_cons, List.not_mem_nil, or_false] at hv
    rcases hv with rfl | rfl | rfl
    · exact ⟨_, rfl, hlow0⟩
    · exact ⟨_, rfl, hlow0⟩
    · exact ⟨_, rfl, hfam⟩
  refine ⟨by omega, ?_⟩
  refine sp_pickL hp2 (by simp) (by omega) fun v st3 hv hp3 => ?_
  obtain ⟨high, rfl, hhigh⟩ : ∃ high, v = lL high ∧ Ls 64 high := by
    simp only [List.mem_cons, List.not_mem_nil, or_false] at hv
    rcases hv with rfl | rfl | rfl
    · exact ⟨_, rfl, hhigh0⟩
    · exact ⟨_, rfl, hhigh0⟩
    · exact ⟨_, rfl, hrest⟩
  walk_at "sx"
  refine ok_seq ?_
  walk_at "sx"
  refine sp_draw hp3 (by omega) (by omega) fun way st4 hw0 hw1 hp4 => ?_
  walk_at "sx"
  have hsp := lenSort_perm every
  obtain ⟨v, hv, hvm⟩ := atI_last (ds := (lenSort every).map tT) (by
    intro e
    have := congrArg List.length e
    rw [List.length_map, hsp.length_eq] at this
    rw [List.length_map] at hpos
    simp at this
    exact hne this)
  obtain ⟨nh, hnh, rfl⟩ := List.mem_map.mp hvm
  have hnh := hsp.mem_iff.mp hnh
  refine ⟨_, hv, by omega, trivial, ?_⟩
  walk_at "sx"
  refine ok_seq ?_
  walk_at "sx"
  refine ⟨by omega, ?_⟩
  refine ok_lcT (as := (["zzzzzzzz", "yy", "xx", "ww", "vv", "uu", "tt"] : List Str)) PV.str (fun x => !decide (x ∈ nh)) PV.str rfl (by simp) (by rw [hz]; decide) (fun _ => rfl) (fun l hl => ?_) (fun l hl _ => ?_) ?_
  · walk_at "st"
    exact ok_inT.mpr ⟨rfl, rfl⟩
  · walk_at "st"
    exact ⟨trivial, trivial⟩
  walk_at "sx"
  have hwl := word_left (ws := (["zzzzzzzz", "yy", "xx", "ww", "vv", "uu", "tt"] : List Str)) (nh := nh) (by decide +kernel) (Nat.lt_of_le_of_lt (h6 nh hnh) (by decide))
  obtain ⟨v, hv, hvm⟩ := atI_in (ds := ((["zzzzzzzz", "yy", "xx", "ww", "vv", "uu", "tt"] : List Str).filter (fun x => !decide (x ∈ nh))).map PV.str) (k := 0) (by decide) (by
    have := List.length_pos_iff.mpr hwl
    rw [List.length_map]
    omega)
  obtain ⟨other, ho, rfl⟩ := List.mem_map.mp hvm
  have hother : sOk 40 other := by
    obtain ⟨a, e, ha⟩ := okStrs_of (w := 40) (vs := (["zzzzzzzz", "yy", "xx", "ww", "vv", "uu", "tt"] : List Str).map PV.str) (by decide +kernel) (List.mem_map_of_mem (f := PV.str) (List.mem_filter.mp ho).1)
    cases e
    exact ha
  refine ⟨_, hv, ?_⟩
  walk_at "sx"
  have hnew : ∀ l ∈ every, Lt (sortS (l ++ [other])) := fun l hl => ⟨by rw [sortS_length, List.length_append]; exact Nat.add_le_add (h6 l hl) (Nat.le_refl 1), fun x hx => by
    rcases List.mem_append.mp ((sortS_perm _).mem_iff.mp hx) with hx | hx
    · exact (h1.2 l hl).2 x hx
    · rw [List.mem_singleton.mp hx]; exact hother⟩
  refine ok_cut (I := LJ every fam rest way nh other cells 65 (B + 10)) ?_ ?_
  · walk_at "sx"
    split
    · refine sp_pickL hp4 ⟨hpos, by rw [List.length_map]; omega⟩ (by omega) fun v st5 hv hp5 => ?_
      obtain ⟨l, hl, rfl⟩ := List.mem_map.mp hv
      have hll := h6 l hl
      walk_at "sx"
      refine ⟨by omega, by rw [List.length_map]; omega, ?_⟩
      have e : l.map PV.str ++ [PV.str other] = (l ++ [other]).map PV.str := by rw [List.map_append]; rfl
      rw [e]
      refine ok_sortT.mpr ?_
      walk_at "sx"
      have hll := hlow.1
      refine ⟨by omega, by rw [List.length_map]; omega, trivial, low ++ [sortS (l ++ [other])], high, st5, ?_, hlow.app (Ls.one (hnew l hl)), hhigh.mono (by decide), hp5.mono (by omega)⟩
      show (_ : S) = ⟨lenv every fam rest (low ++ [sortS (l ++ [other])]) high way nh other, st5⟩
      unfold lenv lL
      rw [List.map_append]
      rfl
    · exact ⟨trivial, low, high, st4, rfl, hlow.mono (by decide), hhigh.mono (by decide), hp4.mono (by omega)⟩
  rintro s ⟨low, high, st4, rfl, hlow, hhigh, hp4⟩
  refine ok_cut (I := LJ every fam rest way nh other cells 66 (B + 20)) ?_ ?_
  · walk_at "sx"
    split
    · refine sp_pickL hp4 ⟨hpos, by rw [List.length_map]; omega⟩ (by omega) fun v st5 hv hp5 => ?_
      obtain ⟨l, hl, rfl⟩ := List.mem_map.mp hv
      have hll := h6 l hl
      walk_at "sx"
      refine ⟨by omega, by rw [List.length_map]; omega, ?_⟩
      have e : l.map PV.str ++ [PV.str other] = (l ++ [other]).map PV.str := by rw [List.map_append]; rfl
      rw [e]
      refine ok_sortT.mpr ?_
      walk_at "sx"
      have hll := hhigh.1
      refine ⟨by omega, by rw [List.length_map]; omega, trivial, low, high ++ [sortS (l ++ [other])], st5, ?_, hlow.mono (by decide), hhigh.app (Ls.one (hnew l hl)), hp5.mono (by omega)⟩
      show (_ : S) = ⟨lenv every fam rest low (high ++ [sortS (l ++ [other])]) way nh other, st5⟩
      unfold lenv lL
      rw [List.map_append]
      rfl
    · exact ⟨trivial, low, high, st4, rfl, hlow.mono (by decide), hhigh.mono (by decide), hp4.mono (by omega)⟩
  rintro s ⟨low, high, st4, rfl, hlow, hhigh, hp4⟩
  refine ok_cut (I := LJ every fam rest way nh other cells 67 (B + 30)) ?_ ?_
  · walk_at "sx"
    split
    · obtain ⟨ls', e, hl1, hl2⟩ := cut_lots (ls := low) (lo := some 1) (hi := none)
      rw [e]
      exact ⟨trivial, ls', high, st4, rfl, (hlow.sub hl1 hl2).mono (by decide), hhigh.mono (by decide), hp4.mono (by omega)⟩
    · exact ⟨trivial, low, high, st4, rfl, hlow.mono (by decide), hhigh.mono (by decide), hp4.mono (by omega)⟩
  rintro s ⟨low, high, st4, rfl, hlow, hhigh, hp4⟩
  refine ok_cut (I := LJ every fam rest way nh other cells 68 (B + 40)) ?_ ?_
  · walk_at "sx"
    split
    · obtain ⟨ls', e, hl1, hl2⟩ := cut_lots (ls := high) (lo := none) (hi := some (-1))
      rw [e]
      exact ⟨trivial, low, ls', st4, rfl, hlow.mono (by decide), (hhigh.sub hl1 hl2).mono (by decide), hp4.mono (by omega)⟩
    · exact ⟨trivial, low, high, st4, rfl, hlow.mono (by decide), hhigh.mono (by decide), hp4.mono (by omega)⟩
  rintro s ⟨low, high, st4, rfl, hlow, hhigh, hp4⟩
  refine ok_cut (I := LJ every fam rest way nh other cells 69 (B + 50)) ?_ ?_
  · walk_at "sx"
    split
    · refine sp_pickL hp4 ⟨hpos, by rw [List.length_map]; omega⟩ (by omega) fun v st5 hv hp5 => ?_
      obtain ⟨l, hl, rfl⟩ := List.mem_map.mp hv
      walk_at "sx"
      have hll := hlow.1
      refine ⟨by omega, by rw [List.length_map]; omega, trivial, low ++ [l], high, st5, ?_, hlow.app (Ls.one (h1.2 l hl)), hhigh.mono (by decide), hp5.mono (by omega)⟩
      show (_ : S) = ⟨lenv every fam rest (low ++ [l]) high way nh other, st5⟩
      unfold lenv lL
      rw [List.map_append]
      rfl
    · exact ⟨trivial, low, high, st4, rfl, hlow.mono (by decide), hhigh.mono (by decide), hp4.mono (by omega)⟩
  rintro s ⟨low, high, st4, rfl, hlow, hhigh, hp4⟩
  refine ok_cut (I := LJ every fam rest way nh other cells 70 (B + 60)) ?_ ?_
  · walk_at "sx"
    split
    · refine sp_pickL hp4 ⟨hpos, by rw [List.length_map]; omega⟩ (by omega) fun v st5 hv hp5 => ?_
      obtain ⟨l, hl, rfl⟩ := List.mem_map.mp hv
      walk_at "sx"
      have hll := hhigh.1
      refine ⟨by omega, by rw [List.length_map]; omega, trivial, low, l :: high, st5, rfl, hlow.mono (by decide), ((Ls.one (h1.2 l hl)).app hhigh).mono (by decide), hp5.mono (by omega)⟩
    · exact ⟨trivial, low, high, st4, rfl, hlow.mono (by decide), hhigh.mono (by decide), hp4.mono (by omega)⟩
  rintro s ⟨low, high, st4, rfl, hlow, hhigh, hp4⟩
  have hlw := hlow.1
  have hhg := hhigh.1
  walk_at "sx"
  refine sp_shuffled hp4 (by rw [List.length_map]; omega) (by omega) hn hlow.gd (by decide) fun ys st5 hy1 hy2 hp5 => ?_
  walk_at "sx"
  rw [List.length_map] at hy1 hp5
  refine sp_shuffled hp5 (by rw [List.length_map]; omega) (by omega) hn hhigh.gd (by decide) fun zs st6 hz1 hz2 hp6 => ?_
  walk_at "sx"
  rw [List.length_map] at hz1 hp6
  obtain ⟨low', rfl, hlow'⟩ := ex_map (f := tT) (P := fun l => l ∈ low) fun y hy => by
    obtain ⟨l, hl, e⟩ := List.mem_map.mp (hy2 y hy)
    exact ⟨l, e.symm, hl⟩
  obtain ⟨high', rfl, hhigh'⟩ := ex_map (f := tT) (P := fun l => l ∈ high) fun y hy => by
    obtain ⟨l, hl, e⟩ := List.mem_map.mp (hz2 y hy)
    exact ⟨l, e.symm, hl⟩
  rw [List.length_map] at hy1 hz1
  exact ⟨by omega, h low' high' st6 ((hlow.sub (by omega) hlow').mono (by decide)) ((hhigh.sub (by omega) hhigh').mono (by decide)) (hp6.mono (by omega))⟩
end Lw
namespace Lw
open PySem Dn
open L2 hiding bin
local macro_rules | `(tactic| walk_at "st") => `(tactic| try simp only [ok_ret, ok_bnd, ok_bin, ok_binL, ok_binR, ok_var, varK_val, varK_own, ok_brw, brwK_some, pv_val, pv_own, ok_asB, asBK_bl, ok_andT, ok_orT, ok_notT, ok_iteT, ok_andV, ok_orV, ok_notV, blK_bl,
  ok_argN, ok_argC, ok_fits, ok_tupM, ok_lstM, ok_parN, ok_parS, intK_int, ok_slM, ok_revM, lstK_lst, ok_joinM, strK_str, ok_itemsM, ok_rngM, ok_seqM, seqK_nx, seqK_rt, seqK_bk, seqK_ct, ok_ifM, ok_retM, ok_dropM, ok_skipM, ok_asgM, ok_asgO, ok_par2, ok_par2VO, ok_par2OO, ok_par3,
  ok_callM, rtK_rt, rtK_nx, ok_loopM, ok_lcM, ok_dispM, ok_prsN, ok_prsC, ok_hget0, getK_some, ok_hputM, putK0, pc, pb, pl, ppb, ppl, plen, ok_add, ok_addS, ok_addT, ok_addL, ok_sub, ok_mul, ok_ixL, ok_ixT, ok_unp, unpK_tup, ok_set0, ok_setC, ok_app, ok_pop, ok_chk', chkK_some, flK_nx, flK_ct, flK_bk, flK_rt, sl_L, sl_T, sl_S, it_L, it_T, ok_sortL, ok_sortT, ok_sortLen, wip, ok_div, ok_mod, ok_pow, ok_rep, ok_ord, ok_fInt, ok_fAbs, ok_fNeg, ok_lenL, ok_lenT, ok_lenS, ok_fListL, ok_fListT, ok_fTupleL, ok_fTupleT, ok_eqI,
  List.map_cons, List.map_nil, List.replicate_succ, List.replicate_zero, List.cons_append, List.nil_append, List.append_nil, List.getElem?_cons_zero, List.getElem?_cons_succ, List.set_cons_zero, List.set_cons_succ, Nat.reduceSub, decide_eq_true_eq, if_true, if_false, Bool.false_eq_true, List.length_cons, List.length_nil])

local macro_rules | `(tactic| walk_at "sx") => `(tactic| try simp only [ok_ret, ok_bnd, ok_bin, ok_binL, ok_binR, ok_var, varK_val, varK_own, ok_brw, brwK_some, pv_val, pv_own, ok_asB, asBK_bl, ok_andT, ok_orT, ok_notT, ok_iteT, ok_andV, ok_orV, ok_notV, blK_bl,
  ok_argN, ok_argC, ok_fits, ok_tupM, ok_lstM, ok_parN, ok_parS, intK_int, ok_slM, ok_revM, lstK_lst, ok_joinM, strK_str, ok_itemsM, ok_rngM, seqK_nx, seqK_rt, seqK_bk, seqK_ct, ok_ifM, ok_retM, ok_dropM, ok_skipM, ok_asgM, ok_asgO, ok_par2, ok_par2VO, ok_par2OO, ok_par3,
  ok_callM, rtK_rt, rtK_nx, ok_loopM, ok_lcM, ok_dispM, ok_prsN, ok_prsC, ok_hget0, getK_some, ok_hputM, putK0, pc, pb, pl, ppb, ppl, plen, ok_add, ok_addS, ok_addT, ok_addL, ok_sub, ok_mul, ok_ixL, ok_ixT, ok_unp, unpK_tup, ok_set0, ok_setC, ok_app, ok_pop, ok_chk', chkK_some, flK_nx, flK_ct, flK_bk, flK_rt, sl_L, sl_T, sl_S, it_L, it_T, ok_sortL, ok_sortT, ok_sortLen, wip, ok_div, ok_mod, ok_pow, ok_rep, ok_ord, ok_fInt, ok_fAbs, ok_fNeg, ok_lenL, ok_lenT, ok_lenS, ok_fListL, ok_fListT, ok_fTupleL, ok_fTupleT, ok_eqI,
  List.map_cons, List.map_nil, List.replicate_succ, List.replicate_zero, List.cons_append, List.nil_append, List.append_nil, List.getElem?_cons_zero, List.getElem?_cons_succ, List.set_cons_zero, List.set_cons_succ, Nat.reduceSub, decide_eq_true_eq, if_true, if_false, Bool.false_eq_true, List.length_cons, List.length_nil])

set_option maxHeartbeats 8000000 in
theorem law_true (ns : List Int) (hns : ns.length ≤ 63) : ∃ n st, m_law n [.scr ns] [] = .ok (.bl true) st := by
  have hz : sizeLine = 16777216 := sizeLine_eq
  suffices h : OkF (m_law 2000 [.scr ns] []) (fun d _ => d = .bl true) by
    obtain ⟨d, st, e, rfl⟩ := h.ex
    exact ⟨2000, st, e⟩
  unfold m_law
  refine okF_fn rfl ?_
  unfold b_law
  refine ok_seq ?_
  walk_at "sx"
  refine sp_pen ?_
  walk_at "sx"
  refine ok_seq ?_
  walk_at "sx"
  refine ⟨_, rngP_nat (by decide) (by decide), ?_⟩
  generalize hcells : cutI ns none (some 63) = cells
  refine ok_for (fun j s => ∃ e2 e3 e4 e5 e6 e7 e8 st, s = ⟨[some (SV.val (PV.scr ns)), some (SV.val (PV.hnd 0)), e2, e3, e4, e5, e6, e7, e8], st⟩ ∧ Pn cells (1000 * (j : Int)) st) ⟨none, none, none, none, none, none, none, _, rfl, ⟨0, 0, rfl, by decide, by decide, by decide⟩⟩ ?_ ?_
  · rintro j x s hx ⟨e2, e3, e4, e5, e6, e7, e8, st, rfl, hp⟩
    obtain ⟨rfl, hj⟩ := rng_get hx
    refine ok_seq ?_
    walk_at "sx"
    refine sp_draw hp (by omega) (by omega) fun many st1 hm0 hm1 hp1 => ?_
    refine sp_names hp1 (by omega) (by omega) fun ss0 st2 hl0 hs0 hp2 => ?_
    refine sp_shuffled hp2 (k := 0) (w := 40) (by rw [List.length_map]; omega) (by omega) (by decide) (fun v hv => by
      obtain ⟨x, hx, rfl⟩ := List.mem_map.mp hv
      exact (hs0 x hx).gd) (by decide) fun ys st3 hy1 hy2 hp3 => ?_
    obtain ⟨ss, rfl, hss⟩ := ex_map (f := PV.str) (P := fun x => sOk 40 x) fun y hy => by
      obtain ⟨x, hx, e⟩ := List.mem_map.mp (hy2 y hy)
      exact ⟨x, e.symm, hs0 x hx⟩
    rw [List.length_map, List.length_map] at hy1
    rw [List.length_map] at hp3
    have hl : ss.length ≤ 6 := by omega
    walk_at "sx"
    refine ok_seq ?_
    walk_at "sx"
    refine OkF.of (eq_lots hl) ?_
    walk_at "sx"
    obtain ⟨g1, g2, g3⟩ := lots_facts hl
    have gl := lots_ls hl hss
    refine ok_seq ?_
    walk_at "sx"
    refine sp_lists hp3 (by omega) (by decide) gl (fun l hm => (g3 l hm).1) g2 fun low high st4 hlow hhigh hp4 => ?_
    walk_at "sx"
    refine ⟨trivial, ?_⟩
    have hgl : Gd 2 40000 (lL low) := (gd_lst hlow.gd).mono (Nat.le_refl _) (by rw [List.length_map]; have := hlow.1; omega)
    have hgh : Gd 2 40000 (lL high) := (gd_lst hhigh.gd).mono (Nat.le_refl _) (by rw [List.length_map]; have := hhigh.1; omega)
    have hgt : Gd 2 40000 (.lst (ss.map PV.str)) := (gd_lst (n := 0) (w := 40) fun v hv => by
      obtain ⟨x, hx, rfl⟩ := List.mem_map.mp hv
      exact (hss x hx).gd).mono (by decide) (by rw [List.length_map]; omega)
    have hkept : Gd 3 200000 (.lst [.lst (ss.map PV.str), lL low, lL high]) := (gd_lst (n := 2) (w := 40000) fun v hv => by
      simp only [List.mem_cons, List.not_mem_nil, or_false] at hv
      rcases hv with rfl | rfl | rfl
      · exact hgt
      · exact hgl
      · exact hgh).mono (Nat.le_refl _) (by simp only [List.length_cons, List.length_nil]; omega)
    have hb : ∀ b : Bool, Gd 0 0 (.bl b) := fun b => gd_bl
    refine ok_seq ?_
    walk_at "sx"
    refine OkF.of (eq_due gl hlow hhigh) ?_
    refine (ok_repr (hb _) (by decide) (by decide)).mpr ?_
    walk_at "sx"
    refine ok_seq ?_
    walk_at "sx"
    refine ⟨by omega, (ok_repr hkept (by decide) (by decide)).mpr ?_⟩
    walk_at "sx"
    refine ok_seq ?_
    walk_at "sx"
    refine OkF.of (eq_split (eq_allL hl) rfl rfl gl hlow hhigh) ?_
    refine (ok_repr (hb _) (by decide) (by decide)).mpr ?_
    walk_at "sx"
    refine ok_eqS.mpr ?_
    walk_at "sx"
    simp only [beq_self_eq_true, Bool.not_true, Bool.false_eq_true, if_false]
    walk_at "sx"
    refine ok_seq ?_
    walk_at "sx"
    refine OkF.of (eq_split (low := low.reverse) (high := high.reverse) (eq_allT hl) (by rw [List.map_reverse]; rfl) (by rw [List.map_reverse]; rfl) gl ⟨by rw [List.length_reverse]; exact hlow.1, fun l hm => hlow.2 l (List.mem_reverse.mp hm)⟩ ⟨by rw [List.length_reverse]; exact hhigh.1, fun l hm => hhigh.2 l (List.mem_reverse.mp hm)⟩) ?_
    rw [splitB_rev]
    refine (ok_repr (hb _) (by decide) (by decide)).mpr ?_
    walk_at "sx"
    refine ok_eqS.mpr ?_
    simp only [beq_self_eq_true, Bool.not_true, Bool.false_eq_true, if_false, if_true]
    walk_at "sx"
    refine ⟨by omega, (ok_repr hkept (by decide) (by decide)).mpr ?_⟩
    walk_at "sx"
    refine ok_eqS.mpr ?_
    simp only [beq_self_eq_true, Bool.not_true, Bool.false_eq_true, if_false, if_true]
    walk_at "sx"
    refine ⟨_, _, _, _, _, _, _, st4, rfl, hp4.mono ?_⟩
    have := hl0
    omega
  · rintro s ⟨e2, e3, e4, e5, e6, e7, e8, st, rfl, hp⟩
    walk_at "st"
end Lw
open PySem PySem.Spec PyProof.Rows
set_option maxRecDepth 100000 in
set_option maxHeartbeats 0 in
theorem PySem.Challenge.cw_rounddown_k81_lists_that_split_all_lots_holds : PySem.Challenge.rw_rounddown_k81_lists_that_split_all_lots.Holds := by
  w_on; o_law; k_head; (case hw => w_witness2)
  k_fill
  refine Dn.law_den (x := "_law_script") (l := PySem.Challenge.rw_rounddown_k81_lists_that_split_all_lots) (k := 5) (m := Lw.m_law) rfl rfl ⟨rfl, by decide, by decide⟩ (fun w h Y => PySem.W.kIn_of Y) ?F Lw.law_true
  case F =>
    intro w mg fa h KX G hmg
    refine' Lw.all_mk KX G hmg ?a0 ?l0 ?c0 ?k0 ?a1 ?l1 ?c1 ?k1 ?a2 ?l2 ?c2 ?k2 ?a3 ?l3 ?c3 ?k3 ?a4 ?l4 ?c4 ?k4 ?a5 ?l5 ?c5 ?k5 ?a6 ?l6 ?c6 ?k6 ?a7 ?l7 ?c7 ?k7 ?a8 ?l8 ?c8 ?k8 ?a9 ?l9 ?c9 ?k9 ?a10 ?l10 ?c10 ?k10 ?a11 ?l11 ?c11 ?k11 ?a12 ?l12 ?c12 ?k12 ?a13 ?l13 ?c13 ?k13 ?z_abs ?z_all ?z_any ?z_int ?z_len ?z_list ?z_range ?z_repr ?z_sorted ?z_tuple
    (case a0 => k_is); (case l0 => k_is); (case c0 => k_is); (case k0 => k_is); (case a1 => k_is); (case l1 => k_is); (case c1 => k_is); (case k1 => k_is); (case a2 => k_is); (case l2 => k_is); (case c2 => k_is); (case k2 => k_is); (case a3 => k_is); (case l3 => k_is); (case c3 => k_is); (case k3 => k_is); (case a4 => k_is); (case l4 => k_is); (case c4 => k_is); (case k4 => k_is); (case a5 => k_is); (case l5 => k_is); (case c5 => k_is); (case k5 => k_is); (case a6 => k_is); (case l6 => k_is); (case c6 => k_is); (case k6 => k_is); (case a7 => k_is); (case l7 => k_is); (case c7 => k_is); (case k7 => k_is); (case a8 => k_is); (case l8 => k_is); (case c8 => k_is); (case k8 => k_is); (case a9 => k_is); (case l9 => k_is); (case c9 => k_is); (case k9 => k_is); (case a10 => k_is); (case l10 => k_is); (case c10 => k_is); (case k10 => k_is); (case a11 => k_is); (case l11 => k_is); (case c11 => k_is); (case k11 => k_is); (case a12 => k_is); (case l12 => k_is); (case c12 => k_is); (case k12 => k_is); (case a13 => k_is); (case l13 => k_is); (case c13 => k_is); (case k13 => k_is); (case z_abs => k_is); (case z_all => k_is); (case z_any => k_is); (case z_int => k_is); (case z_len => k_is); (case z_list => k_is); (case z_range => k_is); (case z_repr => k_is); (case z_sorted => k_is); (case z_tuple => k_is)
