import PyProof.Rows.All
import Wide.All
import OpenK.AllK
import Wide.FinOn
import HandS.ForMost
import HandS.Exc
import HandS.HeadHook2
import HandS.ExcInit
import HandS.Deep
import HandS.TupAny
import HandS.Wide
import HandS.Flow
import HandS.FStr
import HandS.Star
import HandS.Conv
import HandS.RaiseMore
import PyProof.SameEqv
import HandS.SortInts
import PyProof.ReprRoads
import PyProof.CallFns
import PyProof.SumWalkG
import HandS.Style
import KE.KExcSuper
import KE.KSuper
import HandS.Nested
import HandS.ExcField
import HandS.IsInst
import HandS.ExcIs
import KE.KExcIs
import HandS.Zip
import KE.KOwnIter
import HandS.IterVal
import PyProof.InstSpecial
import HandS.OwnIter
import HandS.TryMany
import HandS.TryOnly
import HandS.HeadHook4
import HandS.HeadEnd
import PyProof.Rows.StrDigitsNeg
import PySem.Challenge.RW_partlymet_k01_contracts_read
import KE.IntTextLaws
import HandS.Codes
import KE.KStateDown
import HandS.Head0
import HandS.Head1
import HandS.Head2
import HandS.More
import HandS.Words
import HandS.WordsExc
set_option Elab.async false
set_option linter.all false
set_option maxRecDepth 100000
set_option maxHeartbeats 1000000
set_option autoImplicit false
/-! Pc0: values by value, small memory, the relation to the abstract heap -/
namespace Pc
open PySem PySem.Spec PyProof.Rows L2

abbrev St := L2.St
inductive D where
  | non | bl (b : Bool) | int (i : Int) | str (x : Str)
  | tup (xs : List D) | lst (xs : List D)
  | ctup (xs : List D)
  | ref (i : Nat)
  | obj (c : Str) (ns : List Str) (ds : List D)
  | dic (ks : List Key) (ds : List D)
  | dit (ks : List (List Key)) (ds : List D)
  | scr (ns : List Int)
  | fn (x : Str)
  | exo (c : Str) (ns : List Str) (ds : List D)
  | cau (a : Nat) (d : Option Nat) (c : Str) (ns : List Str) (ds : List D)
  deriving Inhabited

inductive MO where
  | lst (xs : List D)
  | dk (ks : List Key) (ds : List D)
  | dt (ks : List (List Key)) (ds : List D)
  | ins (c : Str) (ns : List Str) (ds : List D)
  deriving Inhabited

abbrev Mem := List MO
abbrev Sl := List (Option D)

inductive RV where
  | val (d : D) | own (o : MO)

def MO.d : MO → D
  | .lst xs => .lst xs
  | .dk ks ds => .dic ks ds
  | .dt ks ds => .dit ks ds
  | .ins c ns ds => .obj c ns ds
def RV.d : RV → D
  | .val d => d
  | .own o => o.d

inductive R (α : Type) where
  | ok (a : α) (M : Mem)
  | exc (c : Str) (ns : List Str) (ds : List D) (M : Mem)
  | stuck

def R.bind {α β : Type} : R α → (α → Mem → R β) → R β
  | .ok a M, f => f a M
  | .exc c ns ds M, _ => .exc c ns ds M
  | .stuck, _ => .stuck
def R.map {α β : Type} (f : α → β) : R α → R β
  | .ok a M => .ok (f a) M
  | .exc c ns ds M => .exc c ns ds M
  | .stuck => .stuck

/-- a meaning of an expression -/
abbrev ME := Sl → Mem → R RV
abbrev MD := Sl → Mem → R D
abbrev MDs := Sl → Mem → R (List D)
def mD (m : ME) : MD := fun env M => (m env M).map RV.d

/-- the dict of an exception object -/
def ExD (F : Hp) : Option Addr → List (Str × V) → Prop
  | none, fvs => fvs = []
  | some d, fvs => F d = some (exd d fvs)
/-- .. of a raised one -/
def XcD (F : Hp) : Option Addr → List (Str × V) → Prop
  | none, fvs => fvs = []
  | some d, fvs => F d = some (.xd fvs)
section
variable (K : PySem.W.Frag)
mutual
def Rel (F : Hp) (io : List Addr) : D → V → Prop
  | .non, v => v = .non
  | .bl b, v => v = .bl b
  | .int i, v => v = .int i
  | .str x, v => v = .str x
  | .tup xs, v => ∃ a vs, v = .ref a ∧ F a = some (.tup vs) ∧ RelL F io xs vs
  | .ctup xs, v => ∃ a vs, v = .ref a ∧ SqT K F a vs ∧ RelL F io xs vs
  | .lst xs, v => ∃ a vs, v = .ref a ∧ F a = some (.lst vs) ∧ RelL F io xs vs
  | .ref i, v => ∃ a, v = .ref a ∧ io[i]? = some a
  | .obj c ns ds, v => ∃ a dx fvs, v = .ref a ∧ F a = some (.ins (He.ga K c) dx fvs) ∧ fvs.map (·.1) = ns ∧ RelL F io ds (fvs.map (·.2))
  | .dic ks ds, v => ∃ a kvs, v = .ref a ∧ F a = some (.dK kvs) ∧ kvs.map (·.1) = ks ∧ RelL F io ds (kvs.map (·.2))
  | .dit ks ds, v => ∃ a kvs, v = .ref a ∧ F a = some (.dT kvs) ∧ kvs.map (·.1) = ks ∧ RelL F io ds (kvs.map (·.2))
  | .scr ns, v => ∃ a, v = .ref a ∧ SqL K F a (ns.map V.int)
  | .fn x, v => v = .ref (He.ga K x)
  | .exo c ns ds, v => ∃ a od fvs, v = .ref a ∧ F a = some (exo a (He.ga K c) od) ∧ ExD F od fvs ∧ fvs.map (·.1) = ns ∧ RelL F io ds (fvs.map (·.2))
  | .cau a od _ ns ds, v => v = .ref a ∧ ∃ fvs, XcD F od fvs ∧ fvs.map (·.1) = ns ∧ RelL F io ds (fvs.map (·.2))
def RelL (F : Hp) (io : List Addr) : List D → List V → Prop
  | [], vs => vs = []
  | d :: ds, vs => ∃ v r, vs = v :: r ∧ Rel F io d v ∧ RelL F io ds r
end
end

def MR (K : PySem.W.Frag) (F : Hp) (io : List Addr) (H : Hp) (a : Addr) : MO → Prop
  | .lst xs => ∃ vs, H a = some (.lst vs) ∧ RelL K F io xs vs
  | .dk ks ds => ∃ kvs, H a = some (.dK kvs) ∧ kvs.map (·.1) = ks ∧ RelL K F io ds (kvs.map (·.2))
  | .dt ks ds => ∃ kvs, H a = some (.dT kvs) ∧ kvs.map (·.1) = ks ∧ RelL K F io ds (kvs.map (·.2))
  | .ins c ns ds => ∃ dx fvs, H a = some (.ins (He.ga K c) dx fvs) ∧ fvs.map (·.1) = ns ∧ RelL K F io ds (fvs.map (·.2))

structure HA (K : PySem.W.Frag) (F : Hp) (io : List Addr) (H : Hp) (M : Mem) : Prop where
  sub : Same F H
  len : io.length = M.length
  nd : io.Nodup
  at_ : ∀ (i : Nat) (o : MO), M[i]? = some o → ∃ a, io[i]? = some a ∧ F a = none ∧ MR K F io H a o

def ER (K : PySem.W.Frag) (F : Hp) (io : List Addr) (σ : St) (env : Sl) : Prop :=
  env.length = σ.length ∧ ∀ (i : Nat) (d : D), env[i]? = some (some d) → ∃ v, σ[i]? = some (some v) ∧ Rel K F io d v

structure Ex (F : Hp) (io : List Addr) (H F' : Hp) (io' : List Addr) (H' : Hp) : Prop where
  sub : Same F F'
  ids : ∀ (i : Nat) (a : Addr), io[i]? = some a → io'[i]? = some a
  frame : ∀ b o, H b = some o → b ∉ io → H' b = some o
  newF : ∀ b o, F' b = some o → F b = some o ∨ H b = none
  newI : ∀ b, b ∈ io' → b ∈ io ∨ H b = none
  there : ∀ b, H b ≠ none → H' b ≠ none

/-! ### monotone -/
section
variable {K : PySem.W.Frag} {F F' F'' H H' H'' : Hp} {io io' io'' : List Addr} {M M' : Mem}
theorem SqT.mono {a : Addr} {xs : List V} (s : Same F F') (h : SqT K F a xs) : SqT K F' a xs := by
  rcases h with (h | ⟨o, h⟩) | h
  · exact .inl (.inl (s _ _ h))
  · exact .inl (.inr ⟨o, s _ _ h⟩)
  · exact .inr h
theorem ExD.mono {od : Option Addr} {fvs : List (Str × V)} (s : Same F F') (h : ExD F od fvs) : ExD F' od fvs := by
  cases od with
  | none => exact h
  | some d => exact s _ _ h
theorem XcD.mono {od : Option Addr} {fvs : List (Str × V)} (s : Same F F') (h : XcD F od fvs) : XcD F' od fvs := by
  cases od with
  | none => exact h
  | some d => exact s _ _ h
mutual
theorem Rel.mono (s : Same F F') (hi : ∀ (i : Nat) (a : Addr), io[i]? = some a → io'[i]? = some a) : ∀ (d : D) (v : V), Rel K F io d v → Rel K F' io' d v
  | .non, _, h => h
  | .bl _, _, h => h
  | .int _, _, h => h
  | .str _, _, h => h
  | .tup xs, _, h => by
    obtain ⟨a, vs, e, q, r⟩ := (show ∃ a vs, _ = V.ref a ∧ F a = some (.tup vs) ∧ RelL K F io xs vs from h)
    exact ⟨a, vs, e, s _ _ q, RelL.mono s hi xs vs r⟩
  | .ctup xs, _, h => by
    obtain ⟨a, vs, e, q, r⟩ := (show ∃ a vs, _ = V.ref a ∧ SqT K F a vs ∧ RelL K F io xs vs from h)
    exact ⟨a, vs, e, SqT.mono s q, RelL.mono s hi xs vs r⟩
  | .lst xs, _, h => by
    obtain ⟨a, vs, e, q, r⟩ := (show ∃ a vs, _ = V.ref a ∧ F a = some (.lst vs) ∧ RelL K F io xs vs from h)
    exact ⟨a, vs, e, s _ _ q, RelL.mono s hi xs vs r⟩
  | .ref i, _, h => by
    obtain ⟨a, e, q⟩ := (show ∃ a, _ = V.ref a ∧ io[i]? = some a from h)
    exact ⟨a, e, hi _ _ q⟩
  | .obj c ns ds, _, h => by
    obtain ⟨a, dx, fvs, e, q, n, r⟩ := (show ∃ a dx fvs, _ = V.ref a ∧ F a = some (.ins (He.ga K c) dx fvs) ∧ fvs.map (·.1) = ns ∧ RelL K F io ds (fvs.map (·.2)) from h)
    exact ⟨a, dx, fvs, e, s _ _ q, n, RelL.mono s hi ds _ r⟩
  | .dic ks ds, _, h => by
    obtain ⟨a, kvs, e, q, n, r⟩ := (show ∃ a kvs, _ = V.ref a ∧ F a = some (.dK kvs) ∧ kvs.map (·.1) = ks ∧ RelL K F io ds (kvs.map (·.2)) from h)
    exact ⟨a, kvs, e, s _ _ q, n, RelL.mono s hi ds _ r⟩
  | .dit ks ds, _, h => by
    obtain ⟨a, kvs, e, q, n, r⟩ := (show ∃ a kvs, _ = V.ref a ∧ F a = some (.dT kvs) ∧ kvs.map (·.1) = ks ∧ RelL K F io ds (kvs.map (·.2)) from h)
    exact ⟨a, kvs, e, s _ _ q, n, RelL.mono s hi ds _ r⟩
  | .scr ns, _, h => by
    obtain ⟨a, e, q⟩ := (show ∃ a, _ = V.ref a ∧ SqL K F a (ns.map V.int) from h)
    exact ⟨a, e, Same.seq s q⟩
  | .fn _, _, h => h
  | .exo c ns ds, _, h => by
    obtain ⟨a, od, fvs, e, q, x, n, r⟩ := (show ∃ a od fvs, _ = V.ref a ∧ F a = some (exo a (He.ga K c) od) ∧ ExD F od fvs ∧ fvs.map (·.1) = ns ∧ RelL K F io ds (fvs.map (·.2)) from h)
    exact ⟨a, od, fvs, e, s _ _ q, x.mono s, n, RelL.mono s hi ds _ r⟩
  | .cau a od c ns ds, _, h => by
    obtain ⟨e, fvs, x, n, r⟩ := (show _ = V.ref a ∧ ∃ fvs, XcD F od fvs ∧ fvs.map (·.1) = ns ∧ RelL K F io ds (fvs.map (·.2)) from h)
    exact ⟨e, fvs, x.mono s, n, RelL.mono s hi ds _ r⟩
theorem RelL.mono (s : Same F F') (hi : ∀ (i : Nat) (a : Addr), io[i]? = some a → io'[i]? = some a) : ∀ (ds : List D) (vs : List V), RelL K F io ds vs → RelL K F' io' ds vs
  | [], _, h => h
  | d :: ds, _, h => by
    obtain ⟨v, r, e, h1, h2⟩ := (show ∃ v r, _ = v :: r ∧ Rel K F io d v ∧ RelL K F io ds r from h)
    exact ⟨v, r, e, Rel.mono s hi d v h1, RelL.mono s hi ds r h2⟩
end
theorem MR.mono {a : Addr} {o : MO} (s : Same F F') (hi : ∀ (i : Nat) (a : Addr), io[i]? = some a → io'[i]? = some a) (e : H' a = H a) (h : MR K F io H a o) : MR K F' io' H' a o := by
  cases o with
  | lst xs => obtain ⟨vs, q, r⟩ := h; exact ⟨vs, e.trans q, RelL.mono s hi _ _ r⟩
  | dk ks ds => obtain ⟨vs, q, n, r⟩ := h; exact ⟨vs, e.trans q, n, RelL.mono s hi _ _ r⟩
  | dt ks ds => obtain ⟨vs, q, n, r⟩ := h; exact ⟨vs, e.trans q, n, RelL.mono s hi _ _ r⟩
  | ins c ns ds => obtain ⟨dx, vs, q, n, r⟩ := h; exact ⟨dx, vs, e.trans q, n, RelL.mono s hi _ _ r⟩
theorem MR.there {a : Addr} {o : MO} (h : MR K F io H a o) : H a ≠ none := by
  cases o with
  | lst xs => obtain ⟨vs, q, r⟩ := h; rw [q]; exact fun z => nomatch z
  | dk ks ds => obtain ⟨vs, q, n, r⟩ := h; rw [q]; exact fun z => nomatch z
  | dt ks ds => obtain ⟨vs, q, n, r⟩ := h; rw [q]; exact fun z => nomatch z
  | ins c ns ds => obtain ⟨dx, vs, q, n, r⟩ := h; rw [q]; exact fun z => nomatch z
theorem ER.mono {σ : St} {env : Sl} (s : Same F F') (hi : ∀ (i : Nat) (a : Addr), io[i]? = some a → io'[i]? = some a) (h : ER K F io σ env) : ER K F' io' σ env :=
  ⟨h.1, fun i d e => by obtain ⟨v, q, r⟩ := h.2 i d e; exact ⟨v, q, Rel.mono s hi d v r⟩⟩
theorem Ex.refl : Ex F io H F io H := ⟨Same.refl _, fun _ _ h => h, fun _ _ h _ => h, fun _ _ h => .inl h, fun _ h => .inl h, fun _ h => h⟩
theorem Ex.trans (a : Ex F io H F' io' H') (b : Ex F' io' H' F'' io'' H'') : Ex F io H F'' io'' H'' where
  sub := a.sub.trans b.sub
  ids := fun i x h => b.ids i x (a.ids i x h)
  frame := fun x o h n => b.frame x o (a.frame x o h n) (fun z => (a.newI x z).elim n fun q => by rw [q] at h; cases h)
  newF := fun x o h => (b.newF x o h).elim (fun q => a.newF x o q) fun q => by
    by_cases z : H x = none
    · exact .inr z
    · exact absurd q (a.there x z)
  newI := fun x h => (b.newI x h).elim (fun q => a.newI x q) fun q => by
    by_cases z : H x = none
    · exact .inr z
    · exact absurd q (a.there x z)
  there := fun x h => b.there x (a.there x h)
theorem Ex.back {b : Addr} (a : Ex F io H F' io' H') (h : H' b = none) : H b = none := by
  by_cases z : H b = none
  · exact z
  · exact absurd h (a.there b z)
/-- what is tracked at an unnamed place may be frozen -/
theorem HA.freeze {a : Addr} {o : HO} (h : HA K F io H M) (hH : H a = some o) (hi : a ∉ io) : HA K (upd F a o) io H M ∧ Same F (upd F a o) := by
  have s : Same F (upd F a o) := fun b u e => by
    by_cases q : b = a
    · subst q; rw [upd_same]; rw [h.sub b u e] at hH; exact hH.symm
    · rw [upd_ne q]; exact e
  refine ⟨⟨fun b u e => ?_, h.len, h.nd, fun i u e => ?_⟩, s⟩
  · by_cases q : b = a
    · subst q; rw [upd_same] at e; rw [hH]; exact e
    · rw [upd_ne q] at e; exact h.sub b u e
  · obtain ⟨c, e1, e2, e3⟩ := h.at_ i u e
    refine ⟨c, e1, ?_, e3.mono s (fun _ _ z => z) rfl⟩
    have hc : c ≠ a := fun q => by rw [q] at e1; exact hi (List.mem_of_getElem? e1)
    rw [upd_ne hc]
    exact e2
/-- a new object is laid at a free place, and frozen or left alone -/
theorem HA.new {a : Addr} {o : HO} (h : HA K F io H M) (hH : H a = none) : HA K F io (upd H a o) M := by
  have hn : ∀ b u, H b = some u → upd H a o b = some u := fun b u e => by rw [upd_ne (ne_of_none e hH)]; exact e
  refine ⟨fun b u e => hn b u (h.sub b u e), h.len, h.nd, fun i u e => ?_⟩
  obtain ⟨c, e1, e2, e3⟩ := h.at_ i u e
  refine ⟨c, e1, e2, e3.mono (Same.refl _) (fun _ _ z => z) ?_⟩
  have := e3.there
  rw [upd_ne]
  rintro rfl
  exact this hH
theorem Ex.new {a : Addr} {o : HO} (h : HA K F io H M) (hH : H a = none) : Ex F io H F io (upd H a o) := by
  refine ⟨Same.refl _, fun _ _ z => z, fun b u e _ => by rw [upd_ne (ne_of_none e hH)]; exact e, fun _ _ z => .inl z, fun _ z => .inl z, fun b e => ?_⟩
  by_cases q : b = a
  · subst q; rw [upd_same]; exact fun z => nomatch z
  · rw [upd_ne q]; exact e
theorem HA.notin {a : Addr} (h : HA K F io H M) (hH : H a = none) : a ∉ io := fun z => by
  obtain ⟨i, hi, e⟩ := List.mem_iff_getElem.mp z
  have hm : i < M.length := by rw [← h.len]; exact hi
  obtain ⟨c, e1, e2, e3⟩ := h.at_ i M[i] (List.getElem?_eq_getElem hm)
  have : c = a := by
    rw [List.getElem?_eq_getElem hi, e] at e1
    exact (Option.some.inj e1).symm
  subst this
  exact e3.there hH
end

/-! ### ends -/
abbrev XKs := WX
/-- how a result stands -/
def RR (K : PySem.W.Frag) (F' : Hp) (io' : List Addr) (H H' : Hp) : RV → V → Prop
  | .val d, v => Rel K F' io' d v
  | .own o, v => ∃ a, v = .ref a ∧ H a = none ∧ F' a = none ∧ a ∉ io' ∧ MR K F' io' H' a o
/-- an exception that is wanted -/
def ExcAt (K : PySem.W.Frag) (F' : Hp) (io' : List Addr) (H H' : Hp) (ns : List Str) (ds : List D) : Option Addr → Prop
  | none => ns = [] ∧ ds = []
  | some dd => ∃ fvs, H' dd = some (.xd fvs) ∧ fvs.map (·.1) = ns ∧ RelL K F' io' ds (fvs.map (·.2)) ∧ H dd = none
def PostE (K : PySem.W.Frag) (W : WX) (F : Hp) (io : List Addr) (H : Hp) (σ : St) (Q : VK) : R RV → Prop
  | .ok rv M' => ∀ F' io' H' v, HA K F' io' H' M' → Ex F io H F' io' H' → RR K F' io' H H' rv v → Q v H'
  | .exc c ns ds M' => ∀ F' io' H' dd, HA K F' io' H' M' → Ex F io H F' io' H' → ExcAt K F' io' H H' ns ds dd → W (.ref (He.ga K c)) dd σ H'
  | .stuck => False
def PostD (K : PySem.W.Frag) (W : WX) (F : Hp) (io : List Addr) (H : Hp) (σ : St) (Q : VK) : R D → Prop
  | .ok d M' => ∀ F' io' H' v, HA K F' io' H' M' → Ex F io H F' io' H' → Rel K F' io' d v → Q v H'
  | .exc c ns ds M' => ∀ F' io' H' dd, HA K F' io' H' M' → Ex F io H F' io' H' → ExcAt K F' io' H H' ns ds dd → W (.ref (He.ga K c)) dd σ H'
  | .stuck => False
def PostDs (K : PySem.W.Frag) (W : WX) (F : Hp) (io : List Addr) (H : Hp) (σ : St) (Q : List V → Hp → Prop) : R (List D) → Prop
  | .ok ds M' => ∀ F' io' H' vs, HA K F' io' H' M' → Ex F io H F' io' H' → RelL K F' io' ds vs → Q vs H'
  | .exc c ns ds M' => ∀ F' io' H' dd, HA K F' io' H' M' → Ex F io H F' io' H' → ExcAt K F' io' H H' ns ds dd → W (.ref (He.ga K c)) dd σ H'
  | .stuck => False
def tE (K : PySem.W.Frag) (W : WX) (m : ME) : TE := fun σ H Q => ∃ F io env M, HA K F io H M ∧ ER K F io σ env ∧ PostE K W F io H σ Q (m env M)
def tD (K : PySem.W.Frag) (W : WX) (m : MD) : TE := fun σ H Q => ∃ F io env M, HA K F io H M ∧ ER K F io σ env ∧ PostD K W F io H σ Q (m env M)
def tDs (K : PySem.W.Frag) (W : WX) (m : MDs) : TA := fun σ H Q => ∃ F io env M, HA K F io H M ∧ ER K F io σ env ∧ PostDs K W F io H σ Q (m env M)

section
variable {X : Cx} {e : Expr} {es : List Expr}
theorem PE.imp' {t t' : TE} (h : PE X e t) (i : ∀ σ H Q, t' σ H Q → t σ H Q) : PE X e t' := ⟨fun pins s σ H Q I hw => h.run pins s σ H Q I (i σ H Q hw)⟩
theorem PT.imp' {t t' : TT} (h : PT X e t) (i : ∀ σ H Q, t' σ H Q → t σ H Q) : PT X e t' := ⟨fun pins s σ H Q I hw => h.run pins s σ H Q I (i σ H Q hw)⟩
theorem PA.imp' {t t' : TA} (h : PA X es t) (i : ∀ σ H Q, t' σ H Q → t σ H Q) : PA X es t' := ⟨fun p pins s σ H Q I hw => h.run p pins s σ H Q I (i σ H Q hw)⟩
theorem PS.imp' {st : Stmt} {t t' : TS} (h : PS X st t) (i : ∀ D σ H, t' D σ H → t D σ H) : PS X st t' := ⟨fun pins s σ H D I hw => h.run pins s σ H D I (i D σ H hw)⟩
theorem PSs.imp' {st : List Stmt} {t t' : TS} (h : PSs X st t) (i : ∀ D σ H, t' D σ H → t D σ H) : PSs X st t' := ⟨fun pins s σ H D I hw => h.run pins s σ H D I (i D σ H hw)⟩
end

section
variable {K : PySem.W.Frag} {W : WX} {F H F1 H1 : Hp} {io io1 : List Addr} {σ : St} {M : Mem}
theorem ExcAt.from_ {F' H' : Hp} {io' : List Addr} {ns : List Str} {ds : List D} {dd : Option Addr} (x : Ex F io H F1 io1 H1) (h : ExcAt K F' io' H1 H' ns ds dd) : ExcAt K F' io' H H' ns ds dd := by
  cases dd with
  | none => exact h
  | some dd =>
    obtain ⟨fvs, h1, h2, h3, h4⟩ := h
    exact ⟨fvs, h1, h2, h3, x.back h4⟩
theorem RR.from_ {F' H' : Hp} {io' : List Addr} {rv : RV} {v : V} (x : Ex F io H F1 io1 H1) (h : RR K F' io' H1 H' rv v) : RR K F' io' H H' rv v := by
  cases rv with
  | val d => exact h
  | own o => obtain ⟨a, e, n, h⟩ := h; exact ⟨a, e, x.back n, h⟩
/-- the end, seen from a later state -/
theorem PostE.from_ {Q : VK} {r : R RV} (x : Ex F io H F1 io1 H1) (h : PostE K W F io H σ Q r) : PostE K W F1 io1 H1 σ Q r := by
  cases r with
  | ok rv M' => exact fun F' io' H' v a b c => h F' io' H' v a (x.trans b) (c.from_ x)
  | exc c ns ds M' => exact fun F' io' H' dd a b c => h F' io' H' dd a (x.trans b) (c.from_ x)
  | stuck => exact h
theorem PostD.from_ {Q : VK} {r : R D} (x : Ex F io H F1 io1 H1) (h : PostD K W F io H σ Q r) : PostD K W F1 io1 H1 σ Q r := by
  cases r with
  | ok rv M' => exact fun F' io' H' v a b c => h F' io' H' v a (x.trans b) c
  | exc c ns ds M' => exact fun F' io' H' dd a b c => h F' io' H' dd a (x.trans b) (c.from_ x)
  | stuck => exact h
theorem PostDs.from_ {Q : List V → Hp → Prop} {r : R (List D)} (x : Ex F io H F1 io1 H1) (h : PostDs K W F io H σ Q r) : PostDs K W F1 io1 H1 σ Q r := by
  cases r with
  | ok rv M' => exact fun F' io' H' v a b c => h F' io' H' v a (x.trans b) c
  | exc c ns ds M' => exact fun F' io' H' dd a b c => h F' io' H' dd a (x.trans b) (c.from_ x)
  | stuck => exact h
theorem PostE.mono {Q Q' : VK} {r : R RV} (h : PostE K W F io H σ Q r) (hq : ∀ v H', Q v H' → Q' v H') : PostE K W F io H σ Q' r := by
  cases r with
  | ok rv M' => exact fun F' io' H' v a b c => hq _ _ (h F' io' H' v a b c)
  | exc c ns ds M' => exact h
  | stuck => exact h
/-- freezing -/
theorem tE_of_tD {m : ME} {H : Hp} {Q : VK} (h : tD K W (mD m) σ H Q) : tE K W m σ H Q := by
  obtain ⟨F, io, env, M, ha, er, p⟩ := h
  refine ⟨F, io, env, M, ha, er, ?_⟩
  unfold mD at p
  cases r : m env M with
  | stuck => rw [r] at p; exact p
  | exc c ns ds M' => rw [r] at p; exact p
  | ok rv M' =>
    rw [r] at p
    intro F' io' H' v a b c
    cases rv with
    | val d => exact p F' io' H' v a b c
    | own o =>
      obtain ⟨l, e, n, nf, ni, mr⟩ := c
      subst e
      have fin : ∀ u, H' l = some u → Rel K (upd F' l u) io' o.d (.ref l) → Q (.ref l) H' := fun u hu rl => by
        obtain ⟨a', s'⟩ := a.freeze hu ni
        refine p (upd F' l u) io' H' _ a' ⟨b.sub.trans s', b.ids, b.frame, fun x y z => ?_, b.newI, b.there⟩ rl
        by_cases q : x = l
        · subst q; exact .inr n
        · rw [upd_ne q] at z; exact b.newF x y z
      have sm : ∀ u, H' l = some u → Same F' (upd F' l u) := fun u hu => (a.freeze hu ni).2
      cases o with
      | lst xs => obtain ⟨vs, q, r⟩ := mr; exact fin _ q ⟨l, vs, rfl, upd_same, RelL.mono (sm _ q) (fun _ _ z => z) _ _ r⟩
      | dk ks ds => obtain ⟨vs, q, nn, r⟩ := mr; exact fin _ q ⟨l, vs, rfl, upd_same, nn, RelL.mono (sm _ q) (fun _ _ z => z) _ _ r⟩
      | dt ks ds => obtain ⟨vs, q, nn, r⟩ := mr; exact fin _ q ⟨l, vs, rfl, upd_same, nn, RelL.mono (sm _ q) (fun _ _ z => z) _ _ r⟩
      | ins c ns ds => obtain ⟨dx, vs, q, nn, r⟩ := mr; exact fin _ q ⟨l, dx, vs, rfl, upd_same, nn, RelL.mono (sm _ q) (fun _ _ z => z) _ _ r⟩
theorem pe_d {X : Cx} {e : Expr} {m : ME} (h : PE X e (tE K W m)) : PE X e (tD K W (mD m)) := PE.imp' h fun _ _ _ => tE_of_tD
/-- a value read, then something else -/
theorem tD_bind {m : MD} {k : D → Mem → R RV} {Q : VK} {H : Hp} {r : V → Hp → Prop} (h : tE K W (fun env M => (m env M).bind k) σ H Q)
    (hr : ∀ d M1 F1 io1 H1 x env, HA K F1 io1 H1 M1 → ER K F1 io1 σ env → Rel K F1 io1 d x → PostE K W F1 io1 H1 σ Q (k d M1) → r x H1) : tD K W m σ H r := by
  obtain ⟨F, io, env, M, ha, er, p⟩ := h
  refine ⟨F, io, env, M, ha, er, ?_⟩
  dsimp only at p
  cases q : m env M with
  | stuck => rw [q] at p; exact p
  | exc c ns ds M' => rw [q] at p; exact p
  | ok d M1 =>
    rw [q] at p
    intro F1 io1 H1 x a b c
    exact hr d M1 F1 io1 H1 x env a (er.mono b.sub b.ids) c (PostE.from_ b p)
end
end Pc
set_option Elab.async false
set_option linter.all false
set_option maxRecDepth 100000
set_option maxHeartbeats 1000000
set_option autoImplicit false
/-! Pc1: operators -/
namespace Pc
open PySem PySem.Spec PyProof.Rows L2

/-! ### reading data -/
mutual
def D.py0 : D → Option PyData
  | .non => some .none
  | .bl b => some (.bool b)
  | .int i => some (.int i)
  | .str x => some (.str x)
  | .tup xs => match pyL xs with
    | some l => some (.tuple l)
    | none => none
  | .ctup xs => match pyL xs with
    | some l => some (.tuple l)
    | none => none
  | .lst xs => match pyL xs with
    | some l => some (.list l)
    | none => none
  | _ => none
def pyL : List D → Option (List PyData)
  | [] => some []
  | d :: ds => match d.py0 with
    | some p => match pyL ds with
      | some l => some (p :: l)
      | none => none
    | none => none
end
/-- the items of a list, frozen or in the memory -/
def seqL (M : Mem) : D → Option (List D)
  | .lst xs => some xs
  | .ref i => match M[i]? with
    | some (.lst xs) => some xs
    | _ => none
  | _ => none
def seqT : D → Option (List D)
  | .tup xs => some xs
  | .ctup xs => some xs
  | _ => none
/-- of a list or a tuple -/
def seqA (M : Mem) (d : D) : Option (List D) := match d with
  | .tup xs => some xs
  | .ctup xs => some xs
  | d => seqL M d
def D.py (M : Mem) (d : D) : Option PyData := match d with
  | .ref i => match seqL M (.ref i) with
    | some xs => match pyL xs with
      | some l => some (.list l)
      | none => none
    | none => none
  | d => d.py0
/-- a dict's keys and values (keys ints and texts) -/
def dicK (M : Mem) : D → Option (List Key × List D)
  | .dic ks ds => some (ks, ds)
  | .ref i => match M[i]? with
    | some (.dk ks ds) => some (ks, ds)
    | _ => none
  | _ => none
def dicT (M : Mem) : D → Option (List (List Key) × List D)
  | .dit ks ds => some (ks, ds)
  | .ref i => match M[i]? with
    | some (.dt ks ds) => some (ks, ds)
    | _ => none
  | _ => none
def D.key : D → Option Key
  | .int i => some (.inl i)
  | .str x => some (.inr x)
  | _ => none
def keysOf : List D → Option (List Key)
  | [] => some []
  | d :: ds => match d.key with
    | some k => match keysOf ds with
      | some l => some (k :: l)
      | none => none
    | none => none
def D.keyT : D → Option (List Key)
  | .tup xs => keysOf xs
  | _ => none
def lookD {κ : Type} [DecidableEq κ] : List κ → List D → κ → Option D
  | k :: ks, d :: ds, j => if k = j then some d else lookD ks ds j
  | _, _, _ => none
/-- what a dict holds at a key; none: not a dict or not a key -/
def dGet (M : Mem) (d k : D) : Option (Option D) := match dicK M d, k.key with
  | some (ks, ds), some j => some (lookD ks ds j)
  | _, _ => match dicT M d, k.keyT with
    | some (ks, ds), some j => some (lookD ks ds j)
    | _, _ => none

section
variable {K : PySem.W.Frag} {F H : Hp} {io : List Addr} {M : Mem}
mutual
theorem rel_dp (s : Same F H) : ∀ (d : D) (v : V) (p : PyData), Rel K F io d v → d.py0 = some p → Dp K H v p
  | .non, _, _, h, e => by
    cases e; obtain rfl := (show _ = V.non from h); exact .non
  | .bl b, _, _, h, e => by
    cases e; obtain rfl := (show _ = V.bl b from h); exact .bl b
  | .int i, _, _, h, e => by
    cases e; obtain rfl := (show _ = V.int i from h); exact .int i
  | .str x, _, _, h, e => by
    cases e; obtain rfl := (show _ = V.str x from h); exact .str x
  | .tup xs, _, p, h, e => by
    obtain ⟨a, vs, rfl, q, r⟩ := (show ∃ a vs, _ = V.ref a ∧ F a = some (.tup vs) ∧ RelL K F io xs vs from h)
    rw [D.py0] at e
    cases hp : pyL xs with
    | none => rw [hp] at e; cases e
    | some l =>
      rw [hp] at e
      cases e
      exact .tup (.of (s _ _ q)) (relL_dp s xs vs l r hp)
  | .ctup xs, _, p, h, e => by
    obtain ⟨a, vs, rfl, q, r⟩ := (show ∃ a vs, _ = V.ref a ∧ SqT K F a vs ∧ RelL K F io xs vs from h)
    rw [D.py0] at e
    cases hp : pyL xs with
    | none => rw [hp] at e; cases e
    | some l =>
      rw [hp] at e
      cases e
      exact .tup (SqT.mono s q) (relL_dp s xs vs l r hp)
  | .lst xs, _, p, h, e => by
    obtain ⟨a, vs, rfl, q, r⟩ := (show ∃ a vs, _ = V.ref a ∧ F a = some (.lst vs) ∧ RelL K F io xs vs from h)
    rw [D.py0] at e
    cases hp : pyL xs with
    | none => rw [hp] at e; cases e
    | some l =>
      rw [hp] at e
      cases e
      exact .lst (.of (s _ _ q)) (relL_dp s xs vs l r hp)
  | .ref i, _, _, _, e => by cases e
  | .obj c ns ds, _, _, _, e => by cases e
  | .dic ks ds, _, _, _, e => by cases e
  | .dit ks ds, _, _, _, e => by cases e
  | .scr ns, _, _, _, e => by cases e
  | .fn x, _, _, _, e => by cases e
  | .exo c ns ds, _, _, _, e => by cases e
  | .cau _ _ _ _ _, _, _, _, e => by cases e
theorem relL_dp (s : Same F H) : ∀ (ds : List D) (vs : List V) (l : List PyData), RelL K F io ds vs → pyL ds = some l → DpAll K H vs l
  | [], _, _, h, e => by
    cases e; obtain rfl := (show _ = [] from h); exact .nil
  | d :: ds, _, l, h, e => by
    obtain ⟨v, r, rfl, h1, h2⟩ := (show ∃ v r, _ = v :: r ∧ Rel K F io d v ∧ RelL K F io ds r from h)
    rw [pyL] at e
    cases hd : d.py0 with
    | none => rw [hd] at e; cases e
    | some p =>
      rw [hd] at e
      cases hl : pyL ds with
      | none => rw [hl] at e; cases e
      | some l' =>
        rw [hl] at e
        cases e
        exact .cons (rel_dp s d v p h1 hd) (relL_dp s ds r l' h2 hl)
end
theorem HA.lst (h : HA K F io H M) {d : D} {v : V} {xs : List D} (r : Rel K F io d v) (e : seqL M d = some xs) : ∃ a vs, v = .ref a ∧ H a = some (.lst vs) ∧ RelL K F io xs vs := by
  cases d with
  | lst ys =>
    cases e
    obtain ⟨a, vs, q, q1, q2⟩ := (show ∃ a vs, _ = V.ref a ∧ F a = some (.lst vs) ∧ RelL K F io xs vs from r)
    exact ⟨a, vs, q, h.sub _ _ q1, q2⟩
  | ref i =>
    obtain ⟨a, q, q1⟩ := (show ∃ a, _ = V.ref a ∧ io[i]? = some a from r)
    rw [seqL] at e
    cases hm : M[i]? with
    | none => rw [hm] at e; cases e
    | some o =>
      rw [hm] at e
      cases o with
      | lst ys =>
        cases e
        obtain ⟨a', e1, e2, vs, e3, e4⟩ := h.at_ i _ hm
        rw [q1] at e1
        cases e1
        exact ⟨a, vs, q, e3, e4⟩
      | _ => cases e
  | _ => cases e
theorem HA.seqA (h : HA K F io H M) {d : D} {v : V} {xs : List D} (r : Rel K F io d v) (e : seqA M d = some xs) : ∃ a vs, v = .ref a ∧ (SqL K H a vs ∨ SqT K H a vs) ∧ RelL K F io xs vs := by
  cases d with
  | tup ys =>
    cases e
    obtain ⟨a, vs, q, q1, q2⟩ := (show ∃ a vs, _ = V.ref a ∧ F a = some (.tup vs) ∧ RelL K F io xs vs from r)
    exact ⟨a, vs, q, .inr (.of (h.sub _ _ q1)), q2⟩
  | ctup ys =>
    cases e
    obtain ⟨a, vs, q, q1, q2⟩ := (show ∃ a vs, _ = V.ref a ∧ SqT K F a vs ∧ RelL K F io xs vs from r)
    exact ⟨a, vs, q, .inr (SqT.mono h.sub q1), q2⟩
  | lst ys => obtain ⟨a, vs, q, q1, q2⟩ := h.lst r e; exact ⟨a, vs, q, .inl (.of q1), q2⟩
  | ref i => obtain ⟨a, vs, q, q1, q2⟩ := h.lst r e; exact ⟨a, vs, q, .inl (.of q1), q2⟩
  | _ => cases e
theorem HA.tup' (h : HA K F io H M) {xs : List D} {v : V} (r : Rel K F io (.tup xs) v) : ∃ a vs, v = .ref a ∧ H a = some (.tup vs) ∧ RelL K F io xs vs := by
  obtain ⟨a, vs, q, q1, q2⟩ := (show ∃ a vs, _ = V.ref a ∧ F a = some (.tup vs) ∧ RelL K F io xs vs from r)
  exact ⟨a, vs, q, h.sub _ _ q1, q2⟩
theorem HA.tup (h : HA K F io H M) {xs : List D} {v : V} (r : Rel K F io (.tup xs) v) : ∃ a vs, v = .ref a ∧ SqT K H a vs ∧ RelL K F io xs vs := by
  obtain ⟨a, vs, q, q1, q2⟩ := h.tup' r
  exact ⟨a, vs, q, .of q1, q2⟩
theorem HA.seqT (h : HA K F io H M) {d : D} {v : V} {xs : List D} (r : Rel K F io d v) (e : seqT d = some xs) : ∃ a vs, v = .ref a ∧ SqT K H a vs ∧ RelL K F io xs vs := by
  cases d with
  | tup ys => cases e; exact h.tup r
  | ctup ys =>
    cases e
    obtain ⟨a, vs, q, q1, q2⟩ := (show ∃ a vs, _ = V.ref a ∧ SqT K F a vs ∧ RelL K F io xs vs from r)
    exact ⟨a, vs, q, SqT.mono h.sub q1, q2⟩
  | _ => cases e
theorem HA.dp (h : HA K F io H M) {d : D} {v : V} {p : PyData} (r : Rel K F io d v) (e : d.py M = some p) : Dp K H v p := by
  cases d with
  | ref i =>
    rw [D.py] at e
    cases hs : seqL M (.ref i) with
    | none => rw [hs] at e; cases e
    | some xs =>
      rw [hs] at e
      cases hl : pyL xs with
      | none => dsimp only at e; rw [hl] at e; cases e
      | some l =>
        dsimp only at e
        rw [hl] at e
        cases e
        obtain ⟨a, vs, rfl, q1, q2⟩ := h.lst r hs
        exact .lst (.of q1) (relL_dp h.sub xs vs l q2 hl)
  | _ => exact rel_dp h.sub _ v p r e
theorem RelL.length : ∀ {ds : List D} {vs : List V}, RelL K F io ds vs → ds.length = vs.length
  | [], _, h => by obtain rfl := (show _ = [] from h); rfl
  | d :: ds, _, h => by
    obtain ⟨v, r, rfl, _, h2⟩ := (show ∃ v r, _ = v :: r ∧ Rel K F io d v ∧ RelL K F io ds r from h)
    rw [List.length_cons, List.length_cons, RelL.length h2]
theorem RelL.append : ∀ {ds es : List D} {vs us : List V}, RelL K F io ds vs → RelL K F io es us → RelL K F io (ds ++ es) (vs ++ us)
  | [], _, _, _, h, g => by obtain rfl := (show _ = [] from h); exact g
  | d :: ds, _, _, _, h, g => by
    obtain ⟨v, r, rfl, h1, h2⟩ := (show ∃ v r, _ = v :: r ∧ Rel K F io d v ∧ RelL K F io ds r from h)
    exact ⟨v, r ++ _, rfl, h1, RelL.append h2 g⟩
theorem RelL.get : ∀ {ds : List D} {vs : List V} {i : Nat} {d : D}, RelL K F io ds vs → ds[i]? = some d → ∃ v, vs[i]? = some v ∧ Rel K F io d v
  | [], _, _, _, _, e => by simp at e
  | d :: ds, _, 0, _, h, e => by
    obtain ⟨v, r, rfl, h1, _⟩ := (show ∃ v r, _ = v :: r ∧ Rel K F io d v ∧ RelL K F io ds r from h)
    simp at e; subst e
    exact ⟨v, rfl, h1⟩
  | d :: ds, _, i + 1, _, h, e => by
    obtain ⟨v, r, rfl, _, h2⟩ := (show ∃ v r, _ = v :: r ∧ Rel K F io d v ∧ RelL K F io ds r from h)
    obtain ⟨u, q, q'⟩ := RelL.get (i := i) h2 (by simpa using e)
    exact ⟨u, by simpa using q, q'⟩
theorem RelL.get' : ∀ {ds : List D} {vs : List V} {i : Nat} {v : V}, RelL K F io ds vs → vs[i]? = some v → ∃ d, ds[i]? = some d ∧ Rel K F io d v
  | [], _, i, _, h, e => by obtain rfl := (show _ = [] from h); simp at e
  | d :: ds, _, 0, _, h, e => by
    obtain ⟨v, r, rfl, h1, _⟩ := (show ∃ v r, _ = v :: r ∧ Rel K F io d v ∧ RelL K F io ds r from h)
    simp at e; subst e
    exact ⟨d, rfl, h1⟩
  | d :: ds, _, i + 1, _, h, e => by
    obtain ⟨v, r, rfl, _, h2⟩ := (show ∃ v r, _ = v :: r ∧ Rel K F io d v ∧ RelL K F io ds r from h)
    obtain ⟨u, q, q'⟩ := RelL.get' (i := i) h2 (by simpa using e)
    exact ⟨u, by simpa using q, q'⟩
theorem RelL.take : ∀ (n : Nat) {ds : List D} {vs : List V}, RelL K F io ds vs → RelL K F io (ds.take n) (vs.take n)
  | 0, _, _, _ => by simp [RelL]
  | n + 1, [], _, h => by obtain rfl := (show _ = [] from h); exact rfl
  | n + 1, d :: ds, _, h => by
    obtain ⟨v, r, rfl, h1, h2⟩ := (show ∃ v r, _ = v :: r ∧ Rel K F io d v ∧ RelL K F io ds r from h)
    exact ⟨v, r.take n, rfl, h1, RelL.take n h2⟩
theorem RelL.drop : ∀ (n : Nat) {ds : List D} {vs : List V}, RelL K F io ds vs → RelL K F io (ds.drop n) (vs.drop n)
  | 0, _, _, h => h
  | n + 1, [], _, h => by obtain rfl := (show _ = [] from h); exact rfl
  | n + 1, d :: ds, _, h => by
    obtain ⟨v, r, rfl, h1, h2⟩ := (show ∃ v r, _ = v :: r ∧ Rel K F io d v ∧ RelL K F io ds r from h)
    exact RelL.drop n h2
theorem RelL.set : ∀ (i : Nat) {ds : List D} {vs : List V} {d : D} {v : V}, RelL K F io ds vs → Rel K F io d v → RelL K F io (ds.set i d) (vs.set i v)
  | _, [], _, _, _, h, _ => by obtain rfl := (show _ = [] from h); exact rfl
  | 0, d :: ds, _, _, _, h, g => by
    obtain ⟨v, r, rfl, h1, h2⟩ := (show ∃ v r, _ = v :: r ∧ Rel K F io d v ∧ RelL K F io ds r from h)
    exact ⟨_, r, rfl, g, h2⟩
  | i + 1, d :: ds, _, _, _, h, g => by
    obtain ⟨v, r, rfl, h1, h2⟩ := (show ∃ v r, _ = v :: r ∧ Rel K F io d v ∧ RelL K F io ds r from h)
    exact ⟨v, r.set i _, rfl, h1, RelL.set i h2 g⟩
theorem RelL.rep {ds : List D} {vs : List V} (h : RelL K F io ds vs) : ∀ n, RelL K F io (List.replicate n ds).flatten (List.replicate n vs).flatten
  | 0 => rfl
  | n + 1 => by rw [List.replicate_succ, List.replicate_succ, List.flatten_cons, List.flatten_cons]; exact h.append (RelL.rep h n)
theorem key_rel {d : D} {v : V} {k : Key} (r : Rel K F io d v) (e : d.key = some k) : v = kV k := by
  cases d with
  | int i => cases e; exact r
  | str x => cases e; exact r
  | _ => cases e
theorem keys_rel : ∀ {ds : List D} {vs : List V} {ks : List Key}, RelL K F io ds vs → keysOf ds = some ks → vs = ks.map kV
  | [], _, _, h, e => by cases e; exact h
  | d :: ds, _, _, h, e => by
    obtain ⟨v, r, rfl, h1, h2⟩ := (show ∃ v r, _ = v :: r ∧ Rel K F io d v ∧ RelL K F io ds r from h)
    rw [keysOf] at e
    cases hk : d.key with
    | none => rw [hk] at e; cases e
    | some k =>
      rw [hk] at e
      cases hl : keysOf ds with
      | none => dsimp only at e; rw [hl] at e; cases e
      | some l =>
        dsimp only at e; rw [hl] at e
        cases e
        rw [key_rel h1 hk, keys_rel h2 hl]
        rfl
end
end Pc
set_option Elab.async false
set_option linter.all false
set_option maxRecDepth 100000
set_option maxHeartbeats 1000000
set_option autoImplicit false
/-! Pc2: the operators' meanings -/
namespace Pc
open PySem PySem.Spec PyProof.Rows L2

section
variable {K : PySem.W.Frag} {W : WX} {F H : Hp} {io : List Addr} {M : Mem} {σ : St} {Q : VK}
theorem HA.fnone {p : Addr} (h : HA K F io H M) (hp : H p = none) : F p = none := by
  cases e : F p with
  | none => rfl
  | some o => rw [h.sub p o e] at hp; cases hp
theorem post_val {d : D} {v : V} (p : PostE K W F io H σ Q (.ok (.val d) M)) (h : HA K F io H M) (r : Rel K F io d v) : Q v H := p F io H v h .refl r
theorem post_own {o : MO} {u : HO} {p : Addr} (q : PostE K W F io H σ Q (.ok (.own o) M)) (h : HA K F io H M) (hp : H p = none) (r : MR K F io (upd H p u) p o) : Q (.ref p) (upd H p u) :=
  q F io _ _ (h.new hp) (Ex.new h hp) ⟨p, rfl, hp, h.fnone hp, h.notin hp, r⟩
theorem post_lst {xs : List D} {vs : List V} {p : Addr} (q : PostE K W F io H σ Q (.ok (.own (.lst xs)) M)) (h : HA K F io H M) (r : RelL K F io xs vs) (hp : H p = none) : Q (.ref p) (upd H p (.lst vs)) :=
  post_own q h hp ⟨vs, upd_same, r⟩
/-- a new frozen object -/
theorem HA.newF {p : Addr} {o : HO} (h : HA K F io H M) (hp : H p = none) : HA K (upd F p o) io (upd H p o) M ∧ Ex F io H (upd F p o) io (upd H p o) ∧ Same F (upd F p o) := by
  have h1 := h.new (o := o) hp
  obtain ⟨h2, s⟩ := h1.freeze (a := p) (o := o) upd_same (h.notin hp)
  refine ⟨h2, ⟨s, fun _ _ z => z, (Ex.new h hp).frame, fun b u e => ?_, fun _ z => .inl z, (Ex.new h hp).there⟩, s⟩
  by_cases q : b = p
  · subst q; exact .inr hp
  · rw [upd_ne q] at e; exact .inl e
theorem post_tup {xs : List D} {vs : List V} {p : Addr} (q : PostE K W F io H σ Q (.ok (.val (.tup xs)) M)) (h : HA K F io H M) (r : RelL K F io xs vs) (hp : H p = none) : Q (.ref p) (upd H p (.tup vs)) := by
  obtain ⟨h1, h2, s⟩ := h.newF (o := .tup vs) hp
  exact q _ io _ _ h1 h2 ⟨p, vs, rfl, upd_same, RelL.mono s (fun _ _ z => z) _ _ r⟩
end

def rBin (K : PySem.W.Frag) (f : D → D → Mem → R RV) : R2 := fun x y H Q => ∃ F io M d1 d2 W σ, HA K F io H M ∧ Rel K F io d1 x ∧ Rel K F io d2 y ∧ PostE K W F io H σ Q (f d1 d2 M)

/-! ### arithmetic -/
def vI (i : Int) (M : Mem) : R RV := .ok (.val (.int i)) M
def vB (b : Bool) (M : Mem) : R RV := .ok (.val (.bl b)) M
def catL (d1 d2 : D) (M : Mem) : R RV := match seqL M d1, seqL M d2 with
  | some xs, some ys => if xs.length + ys.length ≤ sizeLine then .ok (.own (.lst (xs ++ ys))) M else .stuck
  | _, _ => .stuck
def addS (d1 d2 : D) (M : Mem) : R RV := match d1, d2 with
  | .int i, .int j => vI (i + j) M
  | .str a, .str b => if a.length + b.length ≤ sizeLine then .ok (.val (.str (a ++ b))) M else .stuck
  | .tup xs, .tup ys => if xs.length + ys.length ≤ sizeLine then .ok (.val (.tup (xs ++ ys))) M else .stuck
  | d1, d2 => catL d1 d2 M
def subS (d1 d2 : D) (M : Mem) : R RV := match d1, d2 with
  | .int i, .int j => vI (i - j) M
  | _, _ => .stuck
def MulOk (i j : Int) : Prop := (-(2 ^ 64) < i ∧ i < 2 ^ 64) ∨ (-(2 ^ 64) < j ∧ j < 2 ^ 64) ∨ i.natAbs.log2 + j.natAbs.log2 < 1000000
instance (i j : Int) : Decidable (MulOk i j) := by unfold MulOk; exact inferInstance
def mulS (d1 d2 : D) (M : Mem) : R RV := match d1, d2 with
  | .int i, .int j => if MulOk i j then vI (i * j) M else .stuck
  | d, .int k => match seqL M d with
    | some xs => if -(2 ^ 63) ≤ k ∧ k < 2 ^ 63 ∧ xs.length * k.toNat ≤ sizeLine then .ok (.own (.lst (List.replicate k.toNat xs).flatten)) M else .stuck
    | none => .stuck
  | _, _ => .stuck
def divS (d1 d2 : D) (M : Mem) : R RV := match d1, d2 with
  | .int i, .int j => if 0 < j ∧ j.natAbs.log2 < 9000 then vI (i / j) M else .stuck
  | _, _ => .stuck
def modS (d1 d2 : D) (M : Mem) : R RV := match d1, d2 with
  | .int i, .int j => if 0 < j then vI (i % j) M else .stuck
  | _, _ => .stuck
def powS (d1 d2 : D) (M : Mem) : R RV := match d1, d2 with
  | .int i, .int j => if 0 ≤ j ∧ j ≤ 1000000 ∧ i.natAbs < 2 ^ 64 then vI (i ^ j.toNat) M else .stuck
  | _, _ => .stuck
def shlS (d1 d2 : D) (M : Mem) : R RV := match d1, d2 with
  | .int i, .int j => if 0 ≤ j ∧ j ≤ 1000000 ∧ i.natAbs < 2 ^ 64 then vI (i * 2 ^ j.toNat) M else .stuck
  | _, _ => .stuck
def shrS (d1 d2 : D) (M : Mem) : R RV := match d1, d2 with
  | .int i, .int j => if 0 ≤ j then vI (i / 2 ^ j.toNat) M else .stuck
  | _, _ => .stuck
def andS (d1 d2 : D) (M : Mem) : R RV := match d1, d2 with
  | .int i, .int j => vI (Builtin.bitAnd i j) M
  | _, _ => .stuck
def binS : Operator → D → D → Mem → R RV
  | .Add => addS | .Sub => subS | .Mult => mulS | .FloorDiv => divS | .Mod => modS | .Pow => powS
  | .LShift => shlS | .RShift => shrS | .BitAnd => andS
  | _ => fun _ _ _ => .stuck

section
variable {X : Cx}
theorem r_catL {d1 d2 : D} {pins : List (Addr × Obj)} {s : Shared} {σ : St} {H : Hp} {x y : V} {v u : Value} {Q : VK} {F : Hp} {io : List Addr} {M : Mem} {W : WX} {σ' : St} (I : Inv X pins σ H s) (rx : RelV x v) (ry : RelV y u)
    (ha : HA X.K F io H M) (r1 : Rel X.K F io d1 x) (r2 : Rel X.K F io d2 y) (p : PostE X.K W F io H σ' Q (catL d1 d2 M)) : wpAny (model X.prog X.w) X.A (binaryOp .Add v u) (EP X pins σ Q) X.xe s := by
  unfold catL at p
  cases e1 : seqL M d1 with
  | none => rw [e1] at p; exact p.elim
  | some xs =>
    cases e2 : seqL M d2 with
    | none => rw [e1, e2] at p; exact p.elim
    | some ys =>
      rw [e1, e2] at p
      dsimp only at p
      split at p
      · rename_i hz
        obtain ⟨a, vs, e1, g1, l1⟩ := ha.lst r1 e1
        obtain ⟨b, us, e2, g2, l2⟩ := ha.lst r2 e2
        rw [l1.length, l2.length] at hz
        exact op_cat pins s σ H x y v u Q I rx ry ⟨a, b, vs, us, e1, e2, g1, g2, hz, fun q hq => post_lst p ha (l1.append l2) hq⟩
      · exact p.elim
theorem bin_add : OpR X (binaryOp .Add) (rBin X.K addS) := by
  intro pins s σ H x y v u Q I rx ry h
  obtain ⟨F, io, M, d1, d2, W, σ', ha, r1, r2, p⟩ := h
  unfold addS at p
  split at p
  · rename_i i j
    obtain rfl := (show x = V.int i from r1)
    obtain rfl := (show y = V.int j from r2)
    exact op_add pins s σ H _ _ v u Q I rx ry ⟨i, j, rfl, rfl, post_val p ha rfl⟩
  · rename_i a b
    obtain rfl := (show x = V.str a from r1)
    obtain rfl := (show y = V.str b from r2)
    split at p
    · rename_i hz
      exact op_add_str pins s σ H _ _ v u Q I rx ry ⟨a, b, rfl, rfl, hz, post_val p ha rfl⟩
    · exact p.elim
  · rename_i xs ys
    split at p
    · rename_i hz
      obtain ⟨a, vs, e1, g1, l1⟩ := ha.tup r1
      obtain ⟨b, us, e2, g2, l2⟩ := ha.tup r2
      rw [l1.length, l2.length] at hz
      refine op_catA pins s σ H _ _ v u Q I rx ry ⟨a, b, vs, us, e1, e2, g1, g2, hz, fun z => ?_, fun z1 z2 => ?_, fun _ _ q hq => post_tup p ha (l1.append l2) hq⟩
      · have : xs = [] := by
          have := l1.length
          rw [z] at this
          exact List.eq_nil_of_length_eq_zero this
        subst this
        rw [← e2]
        exact post_val p ha r2
      · have : ys = [] := by
          have := l2.length
          rw [z2] at this
          exact List.eq_nil_of_length_eq_zero this
        subst this
        rw [← e1]
        rw [List.append_nil] at p
        exact post_val p ha r1
    · exact p.elim
  · exact r_catL I rx ry ha r1 r2 p
theorem bin_sub : OpR X (binaryOp .Sub) (rBin X.K subS) := by
  intro pins s σ H x y v u Q I rx ry h
  obtain ⟨F, io, M, d1, d2, W, σ', ha, r1, r2, p⟩ := h
  unfold subS at p
  split at p
  · rename_i i j
    obtain rfl := (show x = V.int i from r1)
    obtain rfl := (show y = V.int j from r2)
    exact op_sub pins s σ H _ _ v u Q I rx ry ⟨i, j, rfl, rfl, post_val p ha rfl⟩
  · exact p.elim
theorem bin_mul : OpR X (binaryOp .Mult) (rBin X.K mulS) := by
  intro pins s σ H x y v u Q I rx ry h
  obtain ⟨F, io, M, d1, d2, W, σ', ha, r1, r2, p⟩ := h
  unfold mulS at p
  split at p
  · rename_i i j
    obtain rfl := (show x = V.int i from r1)
    obtain rfl := (show y = V.int j from r2)
    split at p
    · rename_i hz
      rcases hz with hz | hz | hz
      · exact op_mul pins s σ H _ _ v u Q I rx ry ⟨i, j, rfl, rfl, .inl hz, post_val p ha rfl⟩
      · exact op_mul pins s σ H _ _ v u Q I rx ry ⟨i, j, rfl, rfl, .inr hz, post_val p ha rfl⟩
      · exact op_mulW pins s σ H _ _ v u Q I rx ry ⟨i, j, rfl, rfl, hz, post_val p ha rfl⟩
    · exact p.elim
  · rename_i d k hn
    obtain rfl := (show y = V.int k from r2)
    split at p
    · rename_i xs e
      split at p
      · rename_i hz
        obtain ⟨a, vs, e1, g1, l1⟩ := ha.lst r1 e
        rw [l1.length] at hz
        exact op_rep pins s σ H _ _ v u Q I rx ry ⟨a, k, vs, e1, rfl, g1, hz.1, hz.2.1, hz.2.2, fun q hq => post_lst p ha (l1.rep _) hq⟩
      · exact p.elim
    · exact p.elim
  · exact p.elim
theorem bin_int {op : Operator} {C : Int → Int → Prop} [∀ i j, Decidable (C i j)] {g : Int → Int → Int} {f : D → D → Mem → R RV} (ho : OpR X (binaryOp op) (rI C fun i j => .int (g i j)))
    (hf : ∀ d1 d2 M, f d1 d2 M = match d1, d2 with
      | .int i, .int j => if C i j then vI (g i j) M else .stuck
      | _, _ => .stuck) : OpR X (binaryOp op) (rBin X.K f) := by
  intro pins s σ H x y v u Q I rx ry h
  obtain ⟨F, io, M, d1, d2, W, σ', ha, r1, r2, p⟩ := h
  rw [hf] at p
  split at p
  · rename_i i j
    obtain rfl := (show x = V.int i from r1)
    obtain rfl := (show y = V.int j from r2)
    split at p
    · rename_i hz
      exact ho pins s σ H _ _ v u Q I rx ry ⟨i, j, rfl, rfl, hz, post_val p ha rfl⟩
    · exact p.elim
  · exact p.elim
theorem bin_div : OpR X (binaryOp .FloorDiv) (rBin X.K divS) := bin_int (C := fun _ j => 0 < j ∧ j.natAbs.log2 < 9000) op_fdivW (fun _ _ _ => rfl)
theorem bin_mod : OpR X (binaryOp .Mod) (rBin X.K modS) := bin_int (C := fun _ j => 0 < j) op_mod (fun _ _ _ => rfl)
theorem bin_pow : OpR X (binaryOp .Pow) (rBin X.K powS) := bin_int (C := fun i j => 0 ≤ j ∧ j ≤ 1000000 ∧ i.natAbs < 2 ^ 64) op_pow (fun _ _ _ => rfl)
theorem bin_shl : OpR X (binaryOp .LShift) (rBin X.K shlS) := bin_int (C := fun i j => 0 ≤ j ∧ j ≤ 1000000 ∧ i.natAbs < 2 ^ 64) op_shl (fun _ _ _ => rfl)
theorem bin_shr : OpR X (binaryOp .RShift) (rBin X.K shrS) := bin_int (C := fun _ j => 0 ≤ j) op_shr (fun _ _ _ => rfl)
theorem bin_and : OpR X (binaryOp .BitAnd) (rBin X.K andS) := by
  intro pins s σ H x y v u Q I rx ry h
  obtain ⟨F, io, M, d1, d2, W, σ', ha, r1, r2, p⟩ := h
  unfold andS at p
  split at p
  · rename_i i j
    obtain rfl := (show x = V.int i from r1)
    obtain rfl := (show y = V.int j from r2)
    exact op_and pins s σ H _ _ v u Q I rx ry ⟨i, j, rfl, rfl, post_val p ha rfl⟩
  · exact p.elim
theorem bin_any : ∀ (op : Operator), OpR X (binaryOp op) (rBin X.K (binS op))
  | .Add => bin_add | .Sub => bin_sub | .Mult => bin_mul | .FloorDiv => bin_div | .Mod => bin_mod | .Pow => bin_pow
  | .LShift => bin_shl | .RShift => bin_shr | .BitAnd => bin_and
  | .MatMult | .Div | .BitOr | .BitXor => fun pins s σ H x y v u Q I rx ry h => by
    obtain ⟨F, io, M, d1, d2, W, σ', ha, r1, r2, p⟩ := h
    exact p.elim
/-- two operands -/
theorem tD2 {K : PySem.W.Frag} {W : WX} {m1 m2 : MD} {f : D → D → Mem → R RV} {σ : St} {H : Hp} {Q : VK} (h : tE K W (fun env M => (m1 env M).bind fun d1 M1 => (m2 env M1).bind fun d2 M2 => f d1 d2 M2) σ H Q) :
    tD K W m1 σ H fun x H1 => tD K W m2 σ H1 fun y H2 => rBin K f x y H2 Q := by
  obtain ⟨F, io, env, M, ha, er, p⟩ := h
  refine ⟨F, io, env, M, ha, er, ?_⟩
  dsimp only at p
  cases q : m1 env M with
  | stuck => rw [q] at p; exact p
  | exc c ns ds M' => rw [q] at p; exact p
  | ok d M1 =>
    rw [q] at p
    intro F1 io1 H1 x a b c
    refine ⟨F1, io1, env, M1, a, er.mono b.sub b.ids, ?_⟩
    have p1 := PostE.from_ b p
    dsimp only [R.bind] at p1
    cases q2 : m2 env M1 with
    | stuck => rw [q2] at p1; exact p1
    | exc c ns ds M' => rw [q2] at p1; exact p1
    | ok e M2 =>
      rw [q2] at p1
      intro F2 io2 H2 y a2 b2 c2
      exact ⟨F2, io2, M2, d, e, W, σ, a2, Rel.mono b2.sub b2.ids _ _ c, c2, PostE.from_ b2 p1⟩
def mBin (op : Operator) (m1 m2 : ME) : ME := fun env M => (mD m1 env M).bind fun d1 M1 => (mD m2 env M1).bind fun d2 M2 => binS op d1 d2 M2
theorem pm_bin {W : WX} {op : Operator} {a b : Expr} {m1 m2 : ME} {pos : Pos} (ha : PE X a (tE X.K W m1)) (hb : PE X b (tE X.K W m2)) : PE X (.BinOp a op b pos) (tE X.K W (mBin op m1 m2)) :=
  PE.imp' (pe_op (bin_any op) (pe_d ha) (pe_d hb)) fun _ _ _ h => tD2 h
end
end Pc
set_option Elab.async false
set_option linter.all false
set_option maxRecDepth 100000
set_option maxHeartbeats 1000000
set_option autoImplicit false
/-! Pc3: comparisons, truth -/
namespace Pc
open PySem PySem.Spec PyProof.Rows L2

/-! ### == -/
def eqO (d1 d2 : D) (M : Mem) : Option Bool := match d1.py M, d2.py M with
  | some p, some q => if SeqAt.shaped p = true ∧ SeqAt.shaped q = true then some (PyData.eqv p q) else none
  | _, _ => none
def rB (o : Option Bool) (M : Mem) : R RV := match o with
  | some b => vB b M
  | none => .stuck
def eqS (d1 d2 : D) (M : Mem) : R RV := rB (eqO d1 d2 M) M
def neS (d1 d2 : D) (M : Mem) : R RV := rB ((eqO d1 d2 M).map not) M
/-! ### order -/
def ltO (d1 d2 : D) : Option Bool := match d1, d2 with
  | .int i, .int j => some (decide (i < j))
  | _, _ => none
def leO (d1 d2 : D) : Option Bool := match d1, d2 with
  | .int i, .int j => some (decide (i ≤ j))
  | _, _ => none
/-! ### in -/
def flatD : D → Bool
  | .non => true | .bl _ => true | .int _ => true | .str _ => true
  | _ => false
def inO (d1 d2 : D) (M : Mem) : Option Bool := match d1, d2 with
  | .str a, .str z => match a.cps.toList with
    | [c] => some (decide (c ∈ z.cps.toList))
    | _ => some (!(Builtin.Str.occurrences z a 0 z.length 1).isEmpty)
  | d, .ctup xs => if flatD d = true ∧ xs.all flatD = true then (match d.py0, pyL xs with
    | some p, some l => some (l.any fun z => PyData.eqv z p)
    | _, _ => none) else none
  | d, .tup xs => if flatD d = true ∧ xs.all flatD = true then (match d.py0, pyL xs with
    | some p, some l => some (l.any fun z => PyData.eqv z p)
    | _, _ => none) else none
  | d, s => match seqL M s with
    | some xs => (match d.py M, pyL xs with
      | some p, some l => if SeqAt.shaped p = true ∧ SeqAt.shaped (.list l) = true then some (l.any fun z => PyData.eqv z p) else none
      | _, _ => none)
    | none => (dGet M s d).map Option.isSome
/-- is, is not: None alone -/
def isO (d1 d2 : D) : Option Bool := match d1, d2 with
  | .non, .non => some true
  | _, .non => some false
  | _, _ => none
def cmpS : CmpOp → D → D → Mem → R RV
  | .Eq => eqS
  | .NotEq => neS
  | .Lt => fun a b M => rB (ltO a b) M
  | .LtE => fun a b M => rB (leO a b) M
  | .Gt => fun a b M => rB (ltO b a) M
  | .GtE => fun a b M => rB (leO b a) M
  | .In => fun a b M => rB (inO a b M) M
  | .NotIn => fun a b M => rB ((inO a b M).map not) M
  | .Is => fun a b M => rB (isO a b) M
  | .IsNot => fun a b M => rB ((isO a b).map not) M

theorem lookD_val {κ : Type} [DecidableEq κ] {K : PySem.W.Frag} {F : Hp} {io : List Addr} {k : κ} : ∀ {kvs : List (κ × V)} {ds : List D}, RelL K F io ds (kvs.map (·.2)) →
    (∀ d, lookD (kvs.map (·.1)) ds k = some d → ∃ v, valV kvs k = some v ∧ Rel K F io d v) ∧ (lookD (kvs.map (·.1)) ds k = none → valV kvs k = none)
  | [], ds, h => ⟨fun d e => by simp [lookD] at e, fun _ => rfl⟩
  | (j, x) :: r, ds, h => by
    cases ds with
    | nil => have := (show _ = [] from h); simp at this
    | cons d ds =>
      obtain ⟨v, t, e, h1, h2⟩ := (show ∃ v r, _ = v :: r ∧ Rel K F io d v ∧ RelL K F io ds r from h)
      rw [List.map_cons] at e
      injection e with e1 e2
      subst e1 e2
      obtain ⟨i1, i2⟩ := lookD_val (k := k) h2
      rw [List.map_cons, lookD]
      by_cases hk : j = k
      · rw [if_pos hk, valV_pos (p := (j, x)) hk]
        exact ⟨fun d' e => by cases e; exact ⟨_, rfl, h1⟩, fun e => by cases e⟩
      · rw [if_neg hk, valV_neg (p := (j, x)) hk]
        exact ⟨i1, i2⟩
section
variable {X : Cx}
variable {K : PySem.W.Frag} {F H : Hp} {io : List Addr} {M : Mem}
theorem HA.dicK (h : HA K F io H M) {d : D} {v : V} {ks : List Key} {ds : List D} (r : Rel K F io d v) (e : dicK M d = some (ks, ds)) : ∃ a kvs, v = .ref a ∧ H a = some (.dK kvs) ∧ kvs.map (·.1) = ks ∧ RelL K F io ds (kvs.map (·.2)) := by
  cases d with
  | dic ks' ds' =>
    cases e
    obtain ⟨a, kvs, q, q1, q2, q3⟩ := (show ∃ a kvs, _ = V.ref a ∧ F a = some (.dK kvs) ∧ kvs.map (·.1) = _ ∧ RelL K F io _ (kvs.map (·.2)) from r)
    exact ⟨a, kvs, q, h.sub _ _ q1, q2, q3⟩
  | ref i =>
    obtain ⟨a, q, q1⟩ := (show ∃ a, _ = V.ref a ∧ io[i]? = some a from r)
    rw [Pc.dicK] at e
    cases hm : M[i]? with
    | none => rw [hm] at e; cases e
    | some o =>
      rw [hm] at e
      cases o with
      | dk ks' ds' =>
        cases e
        obtain ⟨a', e1, e2, kvs, e3, e4, e5⟩ := h.at_ i _ hm
        rw [q1] at e1
        cases e1
        exact ⟨a, kvs, q, e3, e4, e5⟩
      | _ => cases e
  | _ => cases e
theorem HA.dicT (h : HA K F io H M) {d : D} {v : V} {ks : List (List Key)} {ds : List D} (r : Rel K F io d v) (e : dicT M d = some (ks, ds)) : ∃ a kvs, v = .ref a ∧ H a = some (.dT kvs) ∧ kvs.map (·.1) = ks ∧ RelL K F io ds (kvs.map (·.2)) := by
  cases d with
  | dit ks' ds' =>
    cases e
    obtain ⟨a, kvs, q, q1, q2, q3⟩ := (show ∃ a kvs, _ = V.ref a ∧ F a = some (.dT kvs) ∧ kvs.map (·.1) = _ ∧ RelL K F io _ (kvs.map (·.2)) from r)
    exact ⟨a, kvs, q, h.sub _ _ q1, q2, q3⟩
  | ref i =>
    obtain ⟨a, q, q1⟩ := (show ∃ a, _ = V.ref a ∧ io[i]? = some a from r)
    rw [Pc.dicT] at e
    cases hm : M[i]? with
    | none => rw [hm] at e; cases e
    | some o =>
      rw [hm] at e
      cases o with
      | dt ks' ds' =>
        cases e
        obtain ⟨a', e1, e2, kvs, e3, e4, e5⟩ := h.at_ i _ hm
        rw [q1] at e1
        cases e1
        exact ⟨a, kvs, q, e3, e4, e5⟩
      | _ => cases e
  | _ => cases e
/-- a tuple key must stand tracked, not in the written part -/
theorem HA.keyT (h : HA K F io H M) {d : D} {v : V} {k : List Key} (r : Rel K F io d v) (e : d.keyT = some k) : ∃ b, v = .ref b ∧ H b = some (.tup (k.map kV)) := by
  cases d with
  | tup xs =>
    obtain ⟨a, vs, q, q1, q2⟩ := h.tup' r
    rw [keys_rel q2 e] at q1
    exact ⟨a, q, q1⟩
  | _ => cases e
end
end Pc
set_option Elab.async false
set_option linter.all false
set_option maxRecDepth 100000
set_option maxHeartbeats 1000000
set_option autoImplicit false
/-! Pc4: comparisons are right -/
namespace Pc
open PySem PySem.Spec PyProof.Rows L2

section
variable {X : Cx}
theorem rB_some {b : Bool} {o : Option Bool} {K : PySem.W.Frag} {W : WX} {F H : Hp} {io : List Addr} {M : Mem} {σ : St} {Q : VK} (h : HA K F io H M) (p : PostE K W F io H σ Q (rB o M)) (e : o = some b) : Q (.bl b) H := by
  subst e
  exact post_val p h rfl
theorem rB_ex {o : Option Bool} {K : PySem.W.Frag} {W : WX} {F H : Hp} {io : List Addr} {M : Mem} {σ : St} {Q : VK} (p : PostE K W F io H σ Q (rB o M)) : ∃ b, o = some b := by
  cases o with
  | none => exact p.elim
  | some b => exact ⟨b, rfl⟩
theorem eqO_some {d1 d2 : D} {M : Mem} {b : Bool} (e : eqO d1 d2 M = some b) : ∃ p q, d1.py M = some p ∧ d2.py M = some q ∧ SeqAt.shaped p = true ∧ SeqAt.shaped q = true ∧ b = PyData.eqv p q := by
  unfold eqO at e
  cases h1 : d1.py M with
  | none => rw [h1] at e; cases e
  | some p =>
    cases h2 : d2.py M with
    | none => rw [h1, h2] at e; cases e
    | some q =>
      rw [h1, h2] at e
      dsimp only at e
      split at e
      · rename_i hs
        exact ⟨p, q, rfl, rfl, hs.1, hs.2, (Option.some.inj e).symm⟩
      · cases e
theorem cmp_eq (hu : X.A.units + 64 < cLine) : OpR X (compareOp .Eq) (rBin X.K eqS) := by
  intro pins s σ H x y v u Q I rx ry h
  obtain ⟨F, io, M, d1, d2, W, σ', ha, r1, r2, p⟩ := h
  obtain ⟨b, e⟩ := rB_ex p
  have q := rB_some ha p e
  obtain ⟨p1, p2, e1, e2, s1, s2, rfl⟩ := eqO_some e
  exact op_eqD hu pins s σ H x y v u Q I rx ry ⟨p1, p2, ha.dp r1 e1, ha.dp r2 e2, s1, s2, q⟩
theorem cmp_ne (hu : X.A.units + 64 < cLine) : OpR X (compareOp .NotEq) (rBin X.K neS) := by
  intro pins s σ H x y v u Q I rx ry h
  obtain ⟨F, io, M, d1, d2, W, σ', ha, r1, r2, p⟩ := h
  obtain ⟨b, e⟩ := rB_ex p
  have q := rB_some ha p e
  cases e0 : eqO d1 d2 M with
  | none => rw [e0] at e; cases e
  | some c =>
    rw [e0] at e
    cases e
    obtain ⟨p1, p2, e1, e2, s1, s2, rfl⟩ := eqO_some e0
    exact op_neD hu pins s σ H x y v u Q I rx ry ⟨p1, p2, ha.dp r1 e1, ha.dp r2 e2, s1, s2, q⟩
theorem cmp_int {op : CmpOp} {g : Int → Int → Bool} {f : D → D → Option Bool} (ho : OpR X (compareOp op) (rI0 fun i j => .bl (g i j)))
    (hf : ∀ d1 d2 b, f d1 d2 = some b → ∃ i j, d1 = .int i ∧ d2 = .int j ∧ b = g i j) : OpR X (compareOp op) (rBin X.K fun a b M => rB (f a b) M) := by
  intro pins s σ H x y v u Q I rx ry h
  obtain ⟨F, io, M, d1, d2, W, σ', ha, r1, r2, p⟩ := h
  obtain ⟨b, e⟩ := rB_ex p
  have q := rB_some ha p e
  obtain ⟨i, j, rfl, rfl, rfl⟩ := hf _ _ _ e
  obtain rfl := (show x = V.int i from r1)
  obtain rfl := (show y = V.int j from r2)
  exact ho pins s σ H _ _ v u Q I rx ry ⟨i, j, rfl, rfl, q⟩
theorem ltO_some {d1 d2 : D} {b : Bool} (e : ltO d1 d2 = some b) : ∃ i j, d1 = .int i ∧ d2 = .int j ∧ b = decide (i < j) := by
  unfold ltO at e
  split at e
  · exact ⟨_, _, rfl, rfl, (Option.some.inj e).symm⟩
  · cases e
theorem leO_some {d1 d2 : D} {b : Bool} (e : leO d1 d2 = some b) : ∃ i j, d1 = .int i ∧ d2 = .int j ∧ b = decide (i ≤ j) := by
  unfold leO at e
  split at e
  · exact ⟨_, _, rfl, rfl, (Option.some.inj e).symm⟩
  · cases e
theorem cmp_lt : OpR X (compareOp .Lt) (rBin X.K (cmpS .Lt)) := cmp_int (f := ltO) op_lt fun _ _ _ e => ltO_some e
theorem cmp_le : OpR X (compareOp .LtE) (rBin X.K (cmpS .LtE)) := cmp_int (f := leO) op_le fun _ _ _ e => leO_some e
theorem cmp_gt : OpR X (compareOp .Gt) (rBin X.K (cmpS .Gt)) := cmp_int (f := fun a b => ltO b a) op_gt fun _ _ _ e => by
  obtain ⟨i, j, h1, h2, h3⟩ := ltO_some e; exact ⟨j, i, h2, h1, h3⟩
theorem cmp_ge : OpR X (compareOp .GtE) (rBin X.K (cmpS .GtE)) := cmp_int (f := fun a b => leO b a) op_ge fun _ _ _ e => by
  obtain ⟨i, j, h1, h2, h3⟩ := leO_some e; exact ⟨j, i, h2, h1, h3⟩
theorem isO_some {K : PySem.W.Frag} {F : Hp} {io : List Addr} {d1 d2 : D} {x y : V} {b : Bool} (r1 : Rel K F io d1 x) (r2 : Rel K F io d2 y) (e : isO d1 d2 = some b) : y = .non ∧ b = decide (x = .non) := by
  unfold isO at e
  split at e
  · obtain rfl := (show x = .non from r1)
    cases e
    exact ⟨r2, rfl⟩
  · rename_i hn
    cases e
    refine ⟨r2, (decide_eq_false ?_).symm⟩
    intro ex
    subst ex
    cases d1 with
    | non => exact hn rfl
    | bl b => cases (show V.non = V.bl b from r1)
    | int b => cases (show V.non = V.int b from r1)
    | str b => cases (show V.non = V.str b from r1)
    | tup xs => obtain ⟨a, vs, e, _⟩ := (show ∃ a vs, V.non = V.ref a ∧ _ from r1); cases e
    | ctup xs => obtain ⟨a, vs, e, _⟩ := (show ∃ a vs, V.non = V.ref a ∧ _ from r1); cases e
    | lst xs => obtain ⟨a, vs, e, _⟩ := (show ∃ a vs, V.non = V.ref a ∧ _ from r1); cases e
    | ref i => obtain ⟨a, e, _⟩ := (show ∃ a, V.non = V.ref a ∧ _ from r1); cases e
    | obj c ns ds => obtain ⟨a, dx, fvs, e, _⟩ := (show ∃ a dx fvs, V.non = V.ref a ∧ _ from r1); cases e
    | dic c ns => obtain ⟨a, vs, e, _⟩ := (show ∃ a vs, V.non = V.ref a ∧ _ from r1); cases e
    | dit c ns => obtain ⟨a, vs, e, _⟩ := (show ∃ a vs, V.non = V.ref a ∧ _ from r1); cases e
    | scr ns => obtain ⟨a, e, _⟩ := (show ∃ a, V.non = V.ref a ∧ _ from r1); cases e
    | fn f => cases (show V.non = V.ref _ from r1)
    | exo c ns ds => obtain ⟨a, dx, fvs, e, _⟩ := (show ∃ a dx fvs, V.non = V.ref a ∧ _ from r1); cases e
    | cau a d c ns ds => cases (show V.non = V.ref a ∧ _ from r1).1
  · cases e
theorem cmp_is : OpR X (compareOp .Is) (rBin X.K (cmpS .Is)) := by
  intro pins s σ H x y v u Q I rx ry h
  obtain ⟨F, io, M, d1, d2, W, σ', ha, r1, r2, p⟩ := h
  obtain ⟨b, e⟩ := rB_ex p
  have q := rB_some ha p e
  obtain ⟨e1, rfl⟩ := isO_some r1 r2 e
  exact op_isN pins s σ H x y v u Q I rx ry ⟨e1, q⟩
theorem cmp_isnot : OpR X (compareOp .IsNot) (rBin X.K (cmpS .IsNot)) := by
  intro pins s σ H x y v u Q I rx ry h
  obtain ⟨F, io, M, d1, d2, W, σ', ha, r1, r2, p⟩ := h
  obtain ⟨b, e⟩ := rB_ex p
  have q := rB_some ha p e
  cases e0 : isO d1 d2 with
  | none => rw [e0] at e; cases e
  | some c =>
    rw [e0] at e
    cases e
    obtain ⟨e1, rfl⟩ := isO_some r1 r2 e0
    exact op_notN pins s σ H x y v u Q I rx ry ⟨e1, q⟩
/-! ### in -/
theorem flat_rel {K : PySem.W.Frag} {F : Hp} {io : List Addr} {d : D} {x : V} (f : flatD d = true) (r : Rel K F io d x) : flatV x = true := by
  cases d with
  | non => rw [show x = .non from r]; rfl
  | bl b => rw [show x = .bl b from r]; rfl
  | int b => rw [show x = .int b from r]; rfl
  | str b => rw [show x = .str b from r]; rfl
  | _ => cases f
theorem flats_rel {K : PySem.W.Frag} {F : Hp} {io : List Addr} : ∀ {ds : List D} {vs : List V}, ds.all flatD = true → RelL K F io ds vs → vs.all flatV = true
  | [], _, _, h => by rw [show _ = [] from h]; rfl
  | d :: ds, _, f, h => by
    obtain ⟨v, r, rfl, h1, h2⟩ := (show ∃ v r, _ = v :: r ∧ Rel K F io d v ∧ RelL K F io ds r from h)
    rw [List.all_cons, Bool.and_eq_true] at f ⊢
    exact ⟨flat_rel f.1 h1, flats_rel f.2 h2⟩
theorem eqV_py {K : PySem.W.Frag} {F : Hp} {io : List Addr} {d e : D} {x y : V} {p q : PyData} (fd : flatD d = true) (fe : flatD e = true) (r1 : Rel K F io d x) (r2 : Rel K F io e y) (h1 : d.py0 = some p) (h2 : e.py0 = some q) : eqV x y = PyData.eqv p q := by
  cases d with
  | non => rw [show x = .non from r1]; cases h1; cases e with
    | non => rw [show y = .non from r2]; cases h2; simp [eqV, PyData.eqv]
    | bl b => rw [show y = .bl b from r2]; cases h2; simp [eqV, PyData.eqv]
    | int b => rw [show y = .int b from r2]; cases h2; simp [eqV, PyData.eqv]
    | str b => rw [show y = .str b from r2]; cases h2; simp [eqV, PyData.eqv]
    | _ => cases fe
  | bl a => rw [show x = .bl a from r1]; cases h1; cases e with
    | non => rw [show y = .non from r2]; cases h2; simp [eqV, PyData.eqv]
    | bl b => rw [show y = .bl b from r2]; cases h2; simp [eqV, PyData.eqv]
    | int b => rw [show y = .int b from r2]; cases h2; simp [eqV, PyData.eqv]
    | str b => rw [show y = .str b from r2]; cases h2; simp [eqV, PyData.eqv]
    | _ => cases fe
  | int a => rw [show x = .int a from r1]; cases h1; cases e with
    | non => rw [show y = .non from r2]; cases h2; simp [eqV, PyData.eqv]
    | bl b => rw [show y = .bl b from r2]; cases h2; simp [eqV, PyData.eqv]
    | int b => rw [show y = .int b from r2]; cases h2; simp [eqV, PyData.eqv]
    | str b => rw [show y = .str b from r2]; cases h2; simp [eqV, PyData.eqv]
    | _ => cases fe
  | str a => rw [show x = .str a from r1]; cases h1; cases e with
    | non => rw [show y = .non from r2]; cases h2; simp [eqV, PyData.eqv]
    | bl b => rw [show y = .bl b from r2]; cases h2; simp [eqV, PyData.eqv]
    | int b => rw [show y = .int b from r2]; cases h2; simp [eqV, PyData.eqv]
    | str b => rw [show y = .str b from r2]; cases h2; simp [eqV, PyData.eqv]
    | _ => cases fe
  | _ => cases fd
theorem pyL_cons {d : D} {ds : List D} {l : List PyData} (e : pyL (d :: ds) = some l) : ∃ p r, d.py0 = some p ∧ pyL ds = some r ∧ l = p :: r := by
  rw [pyL] at e
  cases h1 : d.py0 with
  | none => rw [h1] at e; cases e
  | some p =>
    rw [h1] at e
    cases h2 : pyL ds with
    | none => dsimp only at e; rw [h2] at e; cases e
    | some r => dsimp only at e; rw [h2] at e; cases e; exact ⟨p, r, rfl, rfl, rfl⟩
theorem inV_py {K : PySem.W.Frag} {F : Hp} {io : List Addr} {d : D} {x : V} {p : PyData} (fd : flatD d = true) (r1 : Rel K F io d x) (h1 : d.py0 = some p) :
    ∀ {ds : List D} {vs : List V} {l : List PyData}, ds.all flatD = true → RelL K F io ds vs → pyL ds = some l → inV x vs = l.any fun z => PyData.eqv z p
  | [], _, _, _, h, e => by cases e; rw [show _ = [] from h]; rfl
  | e :: ds, _, l, f, h, g => by
    obtain ⟨v, r, rfl, h3, h2⟩ := (show ∃ v r, _ = v :: r ∧ Rel K F io e v ∧ RelL K F io ds r from h)
    rw [List.all_cons, Bool.and_eq_true] at f
    obtain ⟨q, t, g1, g2, rfl⟩ := pyL_cons g
    have ih := inV_py fd r1 h1 f.2 h2 g2
    unfold inV at ih ⊢
    rw [List.any_cons, List.any_cons, ih, eqV_py f.1 fd h3 r1 g1 h1]
theorem Str.one {a : Str} {c : Nat} (h : a.cps.toList = [c]) : a = ⟨#[c]⟩ := TL.ext_tl h
inductive InCase (X : Cx) (H : Hp) (x y : V) (b : Bool) : Prop
  | sign (c : Nat) (z : Str) : x = .str ⟨#[c]⟩ → y = .str z → b = decide (c ∈ z.cps.toList) → InCase X H x y b
  | text (a z : Str) : x = .str a → y = .str z → b = (!(Builtin.Str.occurrences z a 0 z.length 1).isEmpty) → InCase X H x y b
  | flat (p : Addr) (xs : List V) : y = .ref p → (SqL X.K H p xs ∨ SqT X.K H p xs) → flatV x = true → xs.all flatV = true → b = inV x xs → InCase X H x y b
  | deep (d : PyData) (ds : List PyData) : Dp X.K H x d → Dp X.K H y (.list ds) → SeqAt.shaped d = true → SeqAt.shaped (.list ds) = true → b = (ds.any fun z => PyData.eqv z d) → InCase X H x y b
  | dict (a : Addr) (o : Option V) : y = .ref a → DGet H a x o → b = o.isSome → InCase X H x y b
theorem dGet_rel {K : PySem.W.Frag} {F H : Hp} {io : List Addr} {M : Mem} {d k : D} {y x : V} {o : Option D} (ha : HA K F io H M) (r1 : Rel K F io d y) (r2 : Rel K F io k x) (e : dGet M d k = some o) :
    ∃ a ov, y = .ref a ∧ DGet H a x ov ∧ (∀ v, o = some v → ∃ u, ov = some u ∧ Rel K F io v u) ∧ (o = none → ov = none) := by
  have tcase : ∀ ks ds j, dicT M d = some (ks, ds) → k.keyT = some j → o = lookD ks ds j → ∃ a ov, y = .ref a ∧ DGet H a x ov ∧ (∀ v, o = some v → ∃ u, ov = some u ∧ Rel K F io v u) ∧ (o = none → ov = none) := by
    intro ks ds j h1 h2 h3
    obtain ⟨a, kvs, rfl, g1, rfl, g3⟩ := ha.dicT r1 h1
    obtain ⟨b, rfl, hb⟩ := ha.keyT r2 h2
    obtain ⟨l1, l2⟩ := lookD_val (k := j) g3
    refine ⟨a, valV kvs j, rfl, DGet.t g1 hb, fun v hv => l1 v (h3 ▸ hv), fun hn => l2 (h3 ▸ hn)⟩
  unfold dGet at e
  split at e
  · rename_i ks ds j h1 h2
    obtain ⟨a, kvs, rfl, g1, rfl, g3⟩ := ha.dicK r1 h1
    have ek := key_rel r2 h2
    subst ek
    obtain ⟨l1, l2⟩ := lookD_val (k := j) g3
    cases e
    exact ⟨a, valV kvs j, rfl, DGet.k g1, l1, l2⟩
  · split at e
    · rename_i ks ds j h1 h2
      cases e
      exact tcase ks ds j h1 h2 rfl
    · cases e
theorem in_case {F H : Hp} {io : List Addr} {M : Mem} {d1 d2 : D} {x y : V} {b : Bool} (ha : HA X.K F io H M) (r1 : Rel X.K F io d1 x) (r2 : Rel X.K F io d2 y) (e : inO d1 d2 M = some b) : InCase X H x y b := by
  have tupc : ∀ xs, (∃ a vs, y = .ref a ∧ SqT X.K H a vs ∧ RelL X.K F io xs vs) → (if flatD d1 = true ∧ xs.all flatD = true then (match d1.py0, pyL xs with
    | some p, some l => some (l.any fun z => PyData.eqv z p)
    | _, _ => none) else none) = some b → InCase X H x y b := by
    intro xs ht e
    split at e
    · rename_i hf
      split at e
      · rename_i p l h1 h2
        obtain ⟨a, vs, rfl, g1, g2⟩ := ht
        exact .flat a vs rfl (.inr g1) (flat_rel hf.1 r1) (flats_rel hf.2 g2) (by rw [inV_py hf.1 r1 h1 hf.2 g2 h2]; exact (Option.some.inj e).symm)
      · cases e
    · cases e
  unfold inO at e
  split at e
  · rename_i a z
    split at e
    · rename_i c hc
      exact .sign c z (by rw [← Str.one hc]; exact r1) r2 (Option.some.inj e).symm
    · exact .text a z r1 r2 (Option.some.inj e).symm
  · rename_i xs
    obtain ⟨a, vs, q, q1, q2⟩ := ha.seqT r2 (xs := xs) rfl
    exact tupc xs ⟨a, vs, q, q1, q2⟩ e
  · rename_i xs
    obtain ⟨a, vs, q, q1, q2⟩ := ha.seqT r2 (xs := xs) rfl
    exact tupc xs ⟨a, vs, q, q1, q2⟩ e
  · split at e
    · rename_i xs hs
      split at e
      · rename_i p l h1 h2
        split at e
        · rename_i hz
          obtain ⟨a, vs, rfl, g1, g2⟩ := ha.lst r2 hs
          exact .deep p l (ha.dp r1 h1) (.lst (.of g1) (relL_dp ha.sub xs vs l g2 h2)) hz.1 hz.2 (Option.some.inj e).symm
        · cases e
      · cases e
    · cases h : dGet M d2 d1 with
      | none => rw [h] at e; cases e
      | some o =>
        rw [h] at e
        cases e
        obtain ⟨a, ov, rfl, g, g1, g2⟩ := dGet_rel ha r2 r1 h
        refine .dict a ov rfl g ?_
        cases o with
        | none => rw [g2 rfl]; rfl
        | some v => obtain ⟨u, hu, _⟩ := g1 v rfl; rw [hu]; rfl
theorem cmp_in (hu : X.A.units + 65 < cLine) : OpR X (compareOp .In) (rBin X.K (cmpS .In)) := by
  intro pins s σ H x y v u Q I rx ry h
  obtain ⟨F, io, M, d1, d2, W, σ', ha, r1, r2, p⟩ := h
  obtain ⟨b, e⟩ := rB_ex p
  have q := rB_some ha p e
  cases in_case ha r1 r2 e with
  | sign c z e1 e2 e3 => subst e3; exact op_in_sign pins s σ H x y v u Q I rx ry ⟨c, z, e1, e2, q⟩
  | text a z e1 e2 e3 => subst e3; exact op_in_str pins s σ H x y v u Q I rx ry ⟨a, z, e1, e2, q⟩
  | flat a xs e1 e2 e3 e4 e5 => subst e5; exact op_in_seq pins s σ H x y v u Q I rx ry ⟨a, xs, e1, e2, e3, e4, q⟩
  | deep d ds e1 e2 e3 e4 e5 => subst e5; exact op_inD hu pins s σ H x y v u Q I rx ry ⟨d, ds, e1, e2, e3, e4, q⟩
  | dict a o e1 e2 e3 =>
    subst e1 e3
    obtain rfl : u = Value.ref a := ry
    exact d_in (by omega) I e2 rx fun s' I' => ⟨.bl o.isSome, H, I', rfl, q⟩
theorem cmp_notin (hu : X.A.units + 65 < cLine) : OpR X (compareOp .NotIn) (rBin X.K (cmpS .NotIn)) := by
  intro pins s σ H x y v u Q I rx ry h
  obtain ⟨F, io, M, d1, d2, W, σ', ha, r1, r2, p⟩ := h
  obtain ⟨b, e⟩ := rB_ex p
  have q := rB_some ha p e
  cases e0 : inO d1 d2 M with
  | none => rw [e0] at e; cases e
  | some c =>
    rw [e0] at e
    cases e
    cases in_case ha r1 r2 e0 with
    | sign c z e1 e2 e3 => subst e3; exact op_notIn_sign pins s σ H x y v u Q I rx ry ⟨c, z, e1, e2, q⟩
    | text a z e1 e2 e3 => subst e3; exact op_notin_str pins s σ H x y v u Q I rx ry ⟨a, z, e1, e2, q⟩
    | flat a xs e1 e2 e3 e4 e5 => subst e5; exact op_notIn_seq pins s σ H x y v u Q I rx ry ⟨a, xs, e1, e2, e3, e4, q⟩
    | deep d ds e1 e2 e3 e4 e5 => subst e5; exact op_notInD hu pins s σ H x y v u Q I rx ry ⟨d, ds, e1, e2, e3, e4, q⟩
    | dict a o e1 e2 e3 =>
      subst e1 e3
      obtain rfl : u = Value.ref a := ry
      exact d_notIn (by omega) I e2 rx fun s' I' => ⟨.bl (!o.isSome), H, I', rfl, q⟩
theorem cmp_any (hu : X.A.units + 65 < cLine) : ∀ (op : CmpOp), OpR X (compareOp op) (rBin X.K (cmpS op))
  | .Eq => cmp_eq (by omega) | .NotEq => cmp_ne (by omega) | .Lt => cmp_lt | .LtE => cmp_le | .Gt => cmp_gt | .GtE => cmp_ge
  | .In => cmp_in hu | .NotIn => cmp_notin hu | .Is => cmp_is | .IsNot => cmp_isnot
end
end Pc
set_option Elab.async false
set_option linter.all false
set_option maxRecDepth 100000
set_option maxHeartbeats 1000000
set_option autoImplicit false
/-! Pc5: argument lists, displays, truth, boolean operators, conditional expressions -/
namespace Pc
open PySem PySem.Spec PyProof.Rows L2

/-! ### argument lists -/
def mNil : MDs := fun _ M => .ok [] M
def mCons (m : ME) (ms : MDs) : MDs := fun env M => (mD m env M).bind fun d M1 => (ms env M1).bind fun ds M2 => .ok (d :: ds) M2
/-- *e in a list of arguments -/
def mStar (m : ME) (ms : MDs) : MDs := fun env M => (mD m env M).bind fun d M1 => match seqA M1 d with
  | some xs => (ms env M1).bind fun ds M2 => .ok (xs ++ ds) M2
  | none => .stuck

section
variable {K : PySem.W.Frag} {W : WX} {σ : St} {H : Hp}
theorem PostDs.mono {F : Hp} {io : List Addr} {Q Q' : List V → Hp → Prop} {r : R (List D)} (h : PostDs K W F io H σ Q r) (hq : ∀ v H', Q v H' → Q' v H') : PostDs K W F io H σ Q' r := by
  cases r with
  | ok rv M' => exact fun F' io' H' v a b c => hq _ _ (h F' io' H' v a b c)
  | exc c ns ds M' => exact h
  | stuck => exact h
/-- a value, then more: into a list's end -/
theorem tDs_bind {m : MD} {k : D → Sl → Mem → R (List D)} {Q : List V → Hp → Prop} {r : V → Hp → Prop} (h : tDs K W (fun env M => (m env M).bind fun d M1 => k d env M1) σ H Q)
    (hr : ∀ d M1 F1 io1 H1 x env, HA K F1 io1 H1 M1 → ER K F1 io1 σ env → Rel K F1 io1 d x → PostDs K W F1 io1 H1 σ Q (k d env M1) → r x H1) : tD K W m σ H r := by
  obtain ⟨F, io, env, M, ha, er, p⟩ := h
  refine ⟨F, io, env, M, ha, er, ?_⟩
  dsimp only at p
  cases q : m env M with
  | stuck => rw [q] at p; exact p
  | exc c ns ds M' => rw [q] at p; exact p
  | ok d M1 =>
    rw [q] at p
    intro F1 io1 H1 x a b c
    exact hr d M1 F1 io1 H1 x env a (er.mono b.sub b.ids) c (PostDs.from_ b p)
theorem postDs_cons {F : Hp} {io : List Addr} {xs : List D} {vs : List V} {ms : MDs} {env : Sl} {M : Mem} {Q : List V → Hp → Prop} (ha : HA K F io H M) (er : ER K F io σ env) (rl : RelL K F io xs vs)
    (p : PostDs K W F io H σ Q ((ms env M).bind fun ds M2 => .ok (xs ++ ds) M2)) : tDs K W ms σ H fun us H2 => Q (vs ++ us) H2 := by
  refine ⟨F, io, env, M, ha, er, ?_⟩
  cases q : ms env M with
  | stuck => rw [q] at p; exact p
  | exc c ns ds M' => rw [q] at p; exact p
  | ok ds M2 =>
    rw [q] at p
    intro F2 io2 H2 us a b c
    exact p F2 io2 H2 _ a b ((RelL.mono b.sub b.ids _ _ rl).append c)
/-- values, then a result -/
theorem tDs_then {ms : MDs} {k : List D → Mem → R RV} {Q : VK} {r : List V → Hp → Prop} (h : tE K W (fun env M => (ms env M).bind k) σ H Q)
    (hr : ∀ ds M1 F1 io1 H1 xs env, HA K F1 io1 H1 M1 → ER K F1 io1 σ env → RelL K F1 io1 ds xs → PostE K W F1 io1 H1 σ Q (k ds M1) → r xs H1) : tDs K W ms σ H r := by
  obtain ⟨F, io, env, M, ha, er, p⟩ := h
  refine ⟨F, io, env, M, ha, er, ?_⟩
  dsimp only at p
  cases q : ms env M with
  | stuck => rw [q] at p; exact p
  | exc c ns ds M' => rw [q] at p; exact p
  | ok ds M1 =>
    rw [q] at p
    intro F1 io1 H1 xs a b c
    exact hr ds M1 F1 io1 H1 xs env a (er.mono b.sub b.ids) c (PostE.from_ b p)
/-- a value, then a result that may look at the names -/
theorem tD_then {m : MD} {k : D → Sl → Mem → R RV} {Q : VK} {r : V → Hp → Prop} (h : tE K W (fun env M => (m env M).bind fun d M1 => k d env M1) σ H Q)
    (hr : ∀ d M1 F1 io1 H1 x env, HA K F1 io1 H1 M1 → ER K F1 io1 σ env → Rel K F1 io1 d x → PostE K W F1 io1 H1 σ Q (k d env M1) → r x H1) : tD K W m σ H r := by
  obtain ⟨F, io, env, M, ha, er, p⟩ := h
  refine ⟨F, io, env, M, ha, er, ?_⟩
  dsimp only at p
  cases q : m env M with
  | stuck => rw [q] at p; exact p
  | exc c ns ds M' => rw [q] at p; exact p
  | ok d M1 =>
    rw [q] at p
    intro F1 io1 H1 x a b c
    exact hr d M1 F1 io1 H1 x env a (er.mono b.sub b.ids) c (PostE.from_ b p)
end
section
variable {X : Cx} {W : WX} {e : Expr} {es : List Expr}
theorem am_nil : PA X [] (tDs X.K W mNil) := PA.imp' pa_nil fun σ H Q h => by
  obtain ⟨F, io, env, M, ha, er, p⟩ := h
  exact p F io H [] ha .refl rfl
theorem am_cons {m : ME} {ms : MDs} (he : PE X e (tE X.K W m)) (hr : PA X es (tDs X.K W ms)) (hs : starEach (e :: es) X.env = (false, eval e X.env) :: starEach es X.env) : PA X (e :: es) (tDs X.K W (mCons m ms)) :=
  PA.imp' (pa_cons (pe_d he) hr hs) fun σ H Q h =>
    tDs_bind (k := fun d env M1 => (ms env M1).bind fun ds M2 => .ok (d :: ds) M2) h fun d M1 F1 io1 H1 x env a b c p =>
      postDs_cons (xs := [d]) (vs := [x]) a b ⟨x, [], rfl, c, rfl⟩ p
theorem am_star {p : Pos} {m : ME} {ms : MDs} (he : PE X e (tE X.K W m)) (hr : PA X es (tDs X.K W ms)) : PA X (.Starred e p :: es) (tDs X.K W (mStar m ms)) :=
  PA.imp' (StX.pa_star (pe_d he) hr (by rfl)) fun σ H Q h =>
    tDs_bind (k := fun d env M1 => match seqA M1 d with
      | some xs => (ms env M1).bind fun ds M2 => .ok (xs ++ ds) M2
      | none => .stuck) h fun d M1 F1 io1 H1 x env a b c p => by
      split at p
      · rename_i xs hx
        obtain ⟨l, vs, rfl, q, r⟩ := a.seqA c hx
        exact ⟨l, vs, rfl, q.symm, postDs_cons a b r p⟩
      · exact p.elim
/-! ### displays -/
def mTup (ms : MDs) : ME := fun env M => (ms env M).bind fun ds M1 => if ds.length ≤ sizeLine then .ok (.val (.tup ds)) M1 else .stuck
def mLst (ms : MDs) : ME := fun env M => (ms env M).bind fun ds M1 => if ds.length ≤ sizeLine then .ok (.own (.lst ds)) M1 else .stuck
theorem pm_tup {ms : MDs} {k : Nat} {pos : Pos} (h : PA X es (tDs X.K W ms)) : PE X (.Tuple es k pos) (tE X.K W (mTup ms)) :=
  PE.imp' (pe_tup h) fun σ H Q h => tDs_then h fun ds M1 F1 io1 H1 xs env a b c p => by
    split at p
    · rename_i hz
      exact ⟨by rw [← c.length]; exact hz, fun q hq => post_tup p a c hq⟩
    · exact p.elim
theorem pm_lst {ms : MDs} {pos : Pos} (h : PA X es (tDs X.K W ms)) : PE X (.List es pos) (tE X.K W (mLst ms)) :=
  PE.imp' (pe_lst h) fun σ H Q h => tDs_then h fun ds M1 F1 io1 H1 xs env a b c p => by
    split at p
    · rename_i hz
      exact ⟨by rw [← c.length]; exact hz, fun q hq => post_lst p a c hq⟩
    · exact p.elim
/-! ### names, constants -/
def mVal (d : D) : ME := fun _ M => .ok (.val d) M
def mVar (i : Nat) : ME := fun env M => match env[i]? with
  | some (some d) => .ok (.val d) M
  | _ => .stuck
def mStuck : ME := fun _ _ => .stuck
theorem pm_stuck {e : Expr} : PE X e (tE X.K W mStuck) := ⟨fun pins s σ H Q I h => by
  obtain ⟨F, io, env, M, ha, er, p⟩ := h
  exact p.elim⟩
theorem pm_const {d : D} {v : V} (h : PE X e (tC v)) (r : ∀ F io, Rel X.K F io d v) : PE X e (tE X.K W (mVal d)) := PE.imp' h fun σ H Q h => by
  obtain ⟨F, io, env, M, ha, er, p⟩ := h
  exact post_val p ha (r F io)
theorem pm_var {i : Nat} {x : Str} {pos : Pos} (hN : X.N[i]? = some x) (hv : Vis X.env.scope x) (h1 : (x == ("__debug__" : Str)) = false) (h2 : (x == ("__classdict__" : Str)) = false) : PE X (.Name x pos) (tE X.K W (mVar i)) :=
  PE.imp' (pe_var hN hv h1 h2) fun σ H Q h => by
    obtain ⟨F, io, env, M, ha, er, p⟩ := h
    unfold mVar at p
    split at p
    · rename_i d e
      obtain ⟨v, q, r⟩ := er.2 i d e
      exact ⟨v, q, post_val p ha r⟩
    · exact p.elim
/-! ### truth -/
def truO (d : D) (M : Mem) : Option Bool := match d with
  | .non => some false
  | .bl b => some b
  | .int i => some (i != 0)
  | .str x => if x.length ≤ sizeLine then some ((x.length : Int) != 0) else none
  | .tup xs => some (!xs.isEmpty)
  | .ctup xs => some (!xs.isEmpty)
  | .dic ks ds => some (!ks.isEmpty)
  | .lst xs => some (!xs.isEmpty)
  | .ref i => match M[i]? with
    | some (.lst xs) => some (!xs.isEmpty)
    | some (.dk ks ds) => some (!ks.isEmpty)
    | _ => none
  | _ => none
theorem isEmpty_len {α β : Type} {xs : List α} {ys : List β} (h : xs.length = ys.length) : xs.isEmpty = ys.isEmpty := by
  cases xs <;> cases ys <;> simp_all
theorem tru_rel {K : PySem.W.Frag} {F H : Hp} {io : List Addr} {M : Mem} {d : D} {x : V} {b : Bool} (ha : HA K F io H M) (r : Rel K F io d x) (e : truO d M = some b) : TruV K x H b := by
  cases d with
  | non => cases e; rw [show x = .non from r]; rfl
  | bl c =>
    rw [show x = .bl c from r]
    exact (Option.some.inj e).symm
  | int i => cases e; rw [show x = .int i from r]; rfl
  | str z =>
    rw [show x = .str z from r]
    unfold truO at e
    dsimp only at e
    split at e
    · rename_i hz; cases e; exact ⟨hz, rfl⟩
    · cases e
  | tup xs =>
    cases e
    obtain ⟨a, vs, rfl, q, l⟩ := ha.tup r
    exact .inr (.inl ⟨vs, q, by rw [isEmpty_len l.length]⟩)
  | ctup xs =>
    cases e
    obtain ⟨a, vs, rfl, q, l⟩ := ha.seqT (xs := xs) r rfl
    exact .inr (.inl ⟨vs, q, by rw [isEmpty_len l.length]⟩)
  | lst xs =>
    cases e
    obtain ⟨a, vs, rfl, q, l⟩ := ha.lst (xs := xs) r rfl
    exact .inl ⟨vs, .of q, by rw [isEmpty_len l.length]⟩
  | dic ks ds =>
    cases e
    obtain ⟨a, kvs, rfl, q, n, l⟩ := ha.dicK (ks := ks) (ds := ds) r rfl
    exact .inr (.inr ⟨kvs, q, by rw [← n, isEmpty_len (List.length_map ..)]⟩)
  | ref i =>
    unfold truO at e
    dsimp only at e
    split at e
    · rename_i xs hm
      cases e
      obtain ⟨a, vs, rfl, q, l⟩ := ha.lst (xs := xs) r (by rw [seqL, hm])
      exact .inl ⟨vs, .of q, by rw [isEmpty_len l.length]⟩
    · rename_i ks ds hm
      cases e
      obtain ⟨a, kvs, rfl, q, n, l⟩ := ha.dicK (ks := ks) (ds := ds) r (by rw [Pc.dicK, hm])
      exact .inr (.inr ⟨kvs, q, by rw [← n, isEmpty_len (List.length_map ..)]⟩)
    · cases e
  | _ => cases e
/-- tests -/
abbrev MT := Sl → Mem → R Bool
def PostT (K : PySem.W.Frag) (W : WX) (F : Hp) (io : List Addr) (H : Hp) (σ : St) (Q : Bool → Hp → Prop) : R Bool → Prop
  | .ok b M' => ∀ F' io' H', HA K F' io' H' M' → Ex F io H F' io' H' → Q b H'
  | .exc c ns ds M' => ∀ F' io' H' dd, HA K F' io' H' M' → Ex F io H F' io' H' → ExcAt K F' io' H H' ns ds dd → W (.ref (He.ga K c)) dd σ H'
  | .stuck => False
def tT (K : PySem.W.Frag) (W : WX) (m : MT) : TT := fun σ H Q => ∃ F io env M, HA K F io H M ∧ ER K F io σ env ∧ PostT K W F io H σ Q (m env M)
theorem PostT.from_ {K : PySem.W.Frag} {F H F1 H1 : Hp} {io io1 : List Addr} {σ : St} {Q : Bool → Hp → Prop} {r : R Bool} (x : Ex F io H F1 io1 H1) (h : PostT K W F io H σ Q r) : PostT K W F1 io1 H1 σ Q r := by
  cases r with
  | ok rv M' => exact fun F' io' H' a b => h F' io' H' a (x.trans b)
  | exc c ns ds M' => exact fun F' io' H' dd a b c => h F' io' H' dd a (x.trans b) (c.from_ x)
  | stuck => exact h
def mTru (m : ME) : MT := fun env M => (mD m env M).bind fun d M1 => match truO d M1 with
  | some b => .ok b M1
  | none => .stuck
theorem tD_tru {K : PySem.W.Frag} {m : MD} {σ : St} {H : Hp} {Q : Bool → Hp → Prop} (h : tT K W (fun env M => (m env M).bind fun d M1 => match truO d M1 with
    | some b => .ok b M1
    | none => .stuck) σ H Q) : tD K W m σ H fun x H1 => ∃ k, TruV K x H1 k ∧ Q k H1 := by
  obtain ⟨F, io, env, M, ha, er, p⟩ := h
  refine ⟨F, io, env, M, ha, er, ?_⟩
  dsimp only at p
  cases q : m env M with
  | stuck => rw [q] at p; exact p
  | exc c ns ds M' => rw [q] at p; exact p
  | ok d M1 =>
    rw [q] at p
    intro F1 io1 H1 x a b c
    dsimp only [R.bind] at p
    cases e : truO d M1 with
    | none => rw [e] at p; exact p.elim
    | some k =>
      rw [e] at p
      exact ⟨k, tru_rel a c e, p F1 io1 H1 a b⟩
theorem tm_tru {m : ME} (h : PE X e (tE X.K W m)) (he : ∀ whole, isTrue e X.env whole = (do let v ← whole; standAt e.pos; holding [v] (truthy v))) : PT X e (tT X.K W (mTru m)) :=
  PT.imp' (pt_truth (pe_d h) he) fun σ H Q h => tD_tru h
def mCmp (op : CmpOp) (m1 m2 : ME) : ME := fun env M => (mD m1 env M).bind fun d1 M1 => (mD m2 env M1).bind fun d2 M2 => cmpS op d1 d2 M2
theorem pm_cmp {op : CmpOp} {a b : Expr} {m1 m2 : ME} {pos : Pos} (hu : X.A.units + 65 < cLine) (ha : PE X a (tE X.K W m1)) (hb : PE X b (tE X.K W m2)) (hm : behindInMarks op b = false) : PE X (.Compare a [op] [b] pos) (tE X.K W (mCmp op m1 m2)) :=
  PE.imp' (pe_cmpR (cmp_any hu op) (pe_d ha) (pe_d hb) hm) fun _ _ _ h => tD2 h
/-- a value that is a bool, as a test -/
def mBl (m : ME) : MT := fun env M => (m env M).bind fun rv M1 => match rv with
  | .val (.bl b) => .ok b M1
  | _ => .stuck
theorem tE_bl {K : PySem.W.Frag} {m : ME} {σ : St} {H : Hp} {Q : Bool → Hp → Prop} (h : tT K W (mBl m) σ H Q) : tE K W m σ H fun x H1 => ∃ k, x = .bl k ∧ Q k H1 := by
  obtain ⟨F, io, env, M, ha, er, p⟩ := h
  refine ⟨F, io, env, M, ha, er, ?_⟩
  unfold mBl at p
  cases q : m env M with
  | stuck => rw [q] at p; exact p
  | exc c ns ds M' => rw [q] at p; exact p
  | ok rv M1 =>
    rw [q] at p
    intro F1 io1 H1 x a b c
    dsimp only [R.bind] at p
    split at p
    · rename_i k
      exact ⟨k, c, p F1 io1 H1 a b⟩
    · exact p.elim
theorem tm_cmp {op : CmpOp} {a b : Expr} {m1 m2 : ME} {pos : Pos} (hu : X.A.units + 65 < cLine) (ha : PE X a (tE X.K W m1)) (hb : PE X b (tE X.K W m2)) (hm : behindInMarks op b = false) : PT X (.Compare a [op] [b] pos) (tT X.K W (mBl (mCmp op m1 m2))) :=
  PT.imp' (pt_cmpR (cmp_any hu op) (pe_d ha) (pe_d hb) hm) fun σ H Q h => tD2 (tE_bl h)
/-! ### not, and, or -/
def mNotT (m : MT) : MT := fun env M => (m env M).map not
theorem tm_not {m : MT} {pos : Pos} (h : PT X e (tT X.K W m)) : PT X (.UnaryOp .Not e pos) (tT X.K W (mNotT m)) := PT.imp' (pt_not h) fun σ H Q h => by
  obtain ⟨F, io, env, M, ha, er, p⟩ := h
  refine ⟨F, io, env, M, ha, er, ?_⟩
  unfold mNotT at p
  cases q : m env M with
  | stuck => rw [q] at p; exact p
  | exc c ns ds M' => rw [q] at p; exact p
  | ok b M1 => rw [q] at p; exact p
def mAndT (m1 m2 : MT) : MT := fun env M => (m1 env M).bind fun b M1 => if b then m2 env M1 else .ok false M1
def mOrT (m1 m2 : MT) : MT := fun env M => (m1 env M).bind fun b M1 => if b then .ok true M1 else m2 env M1
theorem PW.imp' {e : Expr} {t t' : TT} (h : PW X e t) (i : ∀ σ H Q, t' σ H Q → t σ H Q) : PW X e t' := ⟨fun wh pins s σ H Q I hw => h.run wh pins s σ H Q I (i σ H Q hw)⟩
/-- a test, then more -/
theorem tT_bind {K : PySem.W.Frag} {m : MT} {k : Bool → Sl → Mem → R Bool} {σ : St} {H : Hp} {Q r : Bool → Hp → Prop} (h : tT K W (fun env M => (m env M).bind fun b M1 => k b env M1) σ H Q)
    (hr : ∀ b M1 F1 io1 H1 env, HA K F1 io1 H1 M1 → ER K F1 io1 σ env → PostT K W F1 io1 H1 σ Q (k b env M1) → r b H1) : tT K W m σ H r := by
  obtain ⟨F, io, env, M, ha, er, p⟩ := h
  refine ⟨F, io, env, M, ha, er, ?_⟩
  dsimp only at p
  cases q : m env M with
  | stuck => rw [q] at p; exact p
  | exc c ns ds M' => rw [q] at p; exact p
  | ok d M1 =>
    rw [q] at p
    intro F1 io1 H1 a b
    exact hr d M1 F1 io1 H1 env a (er.mono b.sub b.ids) (PostT.from_ b p)
theorem wm_and {b : Expr} {rest : List Expr} {m1 m2 : MT} {pos : Pos} (h1 : PT X e (tT X.K W m1)) (h2 : PW X (.BoolOp .And (b :: rest) pos) (tT X.K W m2)) : PW X (.BoolOp .And (e :: b :: rest) pos) (tT X.K W (mAndT m1 m2)) :=
  PW.imp' (pw_and h1 h2) fun σ H Q h => tT_bind (k := fun b env M1 => if b then m2 env M1 else .ok false M1) h fun b M1 F1 io1 H1 env a er p => by
    cases b with
    | true => exact ⟨F1, io1, env, M1, a, er, p⟩
    | false => exact p F1 io1 H1 a .refl
theorem wm_or {b : Expr} {rest : List Expr} {m1 m2 : MT} {pos : Pos} (h1 : PT X e (tT X.K W m1)) (h2 : PW X (.BoolOp .Or (b :: rest) pos) (tT X.K W m2)) : PW X (.BoolOp .Or (e :: b :: rest) pos) (tT X.K W (mOrT m1 m2)) :=
  PW.imp' (pw_or h1 h2) fun σ H Q h => tT_bind (k := fun b env M1 => if b then .ok true M1 else m2 env M1) h fun b M1 F1 io1 H1 env a er p => by
    cases b with
    | false => exact ⟨F1, io1, env, M1, a, er, p⟩
    | true => exact p F1 io1 H1 a .refl
/-- .. as values, by truth -/
def mAnd (m1 m2 : ME) : ME := fun env M => (mD m1 env M).bind fun d M1 => match truO d M1 with
  | some true => m2 env M1
  | some false => .ok (.val d) M1
  | none => .stuck
def mOr (m1 m2 : ME) : ME := fun env M => (mD m1 env M).bind fun d M1 => match truO d M1 with
  | some false => m2 env M1
  | some true => .ok (.val d) M1
  | none => .stuck
theorem pm_and {b : Expr} {rest : List Expr} {m1 m2 : ME} {pos : Pos} (h1 : PE X e (tE X.K W m1)) (h2 : PE X (.BoolOp .And (b :: rest) pos) (tE X.K W m2)) : PE X (.BoolOp .And (e :: b :: rest) pos) (tE X.K W (mAnd m1 m2)) :=
  PE.imp' (pe_andT (pe_d h1) h2) fun σ H Q h => tD_then (k := fun d env M1 => match truO d M1 with
    | some true => m2 env M1
    | some false => .ok (.val d) M1
    | none => .stuck) h fun d M1 F1 io1 H1 x env a er r p => by
    split at p
    · rename_i e; exact ⟨true, tru_rel a r e, by rw [if_pos rfl]; exact ⟨F1, io1, env, M1, a, er, p⟩⟩
    · rename_i e; exact ⟨false, tru_rel a r e, by rw [if_neg Bool.false_ne_true]; exact post_val p a r⟩
    · exact p.elim
theorem pm_or {b : Expr} {rest : List Expr} {m1 m2 : ME} {pos : Pos} (h1 : PE X e (tE X.K W m1)) (h2 : PE X (.BoolOp .Or (b :: rest) pos) (tE X.K W m2)) : PE X (.BoolOp .Or (e :: b :: rest) pos) (tE X.K W (mOr m1 m2)) :=
  PE.imp' (pe_orT (pe_d h1) h2) fun σ H Q h => tD_then (k := fun d env M1 => match truO d M1 with
    | some false => m2 env M1
    | some true => .ok (.val d) M1
    | none => .stuck) h fun d M1 F1 io1 H1 x env a er r p => by
    split at p
    · rename_i e; exact ⟨false, tru_rel a r e, by rw [if_neg Bool.false_ne_true]; exact ⟨F1, io1, env, M1, a, er, p⟩⟩
    · rename_i e; exact ⟨true, tru_rel a r e, by rw [if_pos rfl]; exact post_val p a r⟩
    · exact p.elim
theorem pm_one {op : BoolOp} {m : ME} {pos : Pos} (h : PE X e (tE X.K W m)) : PE X (.BoolOp op [e] pos) (tE X.K W m) := pe_one h
def mNot (m : ME) : ME := fun env M => (mD m env M).bind fun d M1 => match truO d M1 with
  | some b => vB (!b) M1
  | none => .stuck
theorem pm_not {m : ME} {pos : Pos} (h : PE X e (tE X.K W m)) : PE X (.UnaryOp .Not e pos) (tE X.K W (mNot m)) :=
  PE.imp' (pe_notT (pe_d h)) fun σ H Q h => tD_bind h fun d M1 F1 io1 H1 x env a er r p => by
    split at p
    · rename_i b e; exact ⟨b, tru_rel a r e, post_val p a rfl⟩
    · exact p.elim
def mNeg (m : ME) : ME := fun env M => (mD m env M).bind fun d M1 => match d with
  | .int i => vI (-i) M1
  | _ => .stuck
theorem pm_neg {m : ME} {pos : Pos} (h : PE X e (tE X.K W m)) : PE X (.UnaryOp .USub e pos) (tE X.K W (mNeg m)) :=
  PE.imp' (pe_un un_neg (pe_d h)) fun σ H Q h => tD_bind h fun d M1 F1 io1 H1 x env a er r p => by
    split at p
    · rename_i i; exact ⟨i, r, post_val p a rfl⟩
    · exact p.elim
/-! ### a if t else b -/
def mIf (t : MT) (m1 m2 : ME) : ME := fun env M => (t env M).bind fun b M1 => if b then m1 env M1 else m2 env M1
theorem tT_then {K : PySem.W.Frag} {m : MT} {k : Bool → Sl → Mem → R RV} {σ : St} {H : Hp} {Q : VK} {r : Bool → Hp → Prop} (h : tE K W (fun env M => (m env M).bind fun b M1 => k b env M1) σ H Q)
    (hr : ∀ b M1 F1 io1 H1 env, HA K F1 io1 H1 M1 → ER K F1 io1 σ env → PostE K W F1 io1 H1 σ Q (k b env M1) → r b H1) : tT K W m σ H r := by
  obtain ⟨F, io, env, M, ha, er, p⟩ := h
  refine ⟨F, io, env, M, ha, er, ?_⟩
  dsimp only at p
  cases q : m env M with
  | stuck => rw [q] at p; exact p
  | exc c ns ds M' => rw [q] at p; exact p
  | ok d M1 =>
    rw [q] at p
    intro F1 io1 H1 a b
    exact hr d M1 F1 io1 H1 env a (er.mono b.sub b.ids) (PostE.from_ b p)
theorem pm_if {c a b : Expr} {t : MT} {m1 m2 : ME} {pos : Pos} (hc : PT X c (tT X.K W t)) (h1 : PE X a (tE X.K W m1)) (h2 : PE X b (tE X.K W m2)) : PE X (.IfExp c a b pos) (tE X.K W (mIf t m1 m2)) :=
  PE.imp' (pe_ifExp hc h1 h2) fun σ H Q h => tT_then (k := fun b env M1 => if b then m1 env M1 else m2 env M1) h fun b M1 F1 io1 H1 env a er p => by
    cases b with
    | true => exact ⟨F1, io1, env, M1, a, er, p⟩
    | false => exact ⟨F1, io1, env, M1, a, er, p⟩
/-! ### a op1 b op2 c -/
def mChain (op op' : CmpOp) (m1 m2 m3 : ME) : ME := fun env M => (mD m1 env M).bind fun d1 M1 => (mD m2 env M1).bind fun d2 M2 => (cmpS op d1 d2 M2).bind fun rv M3 => match rv with
  | .val (.bl true) => (mD m3 env M3).bind fun d3 M4 => cmpS op' d2 d3 M4
  | .val (.bl false) => vB false M3
  | _ => .stuck
theorem cmpS_mem {op : CmpOp} {d1 d2 : D} {M M' : Mem} {rv : RV} (h : cmpS op d1 d2 M = .ok rv M') : M' = M ∧ ∃ b, rv = .val (.bl b) := by
  have rb : ∀ o, rB o M = .ok rv M' → M' = M ∧ ∃ b, rv = .val (.bl b) := fun o h => by
    cases o with
    | none => cases h
    | some b => cases h; exact ⟨rfl, b, rfl⟩
  cases op <;> exact rb _ h
theorem cmpS_exc {op : CmpOp} {d1 d2 : D} {M M' : Mem} {c : Str} {ns : List Str} {ds : List D} (h : cmpS op d1 d2 M = .exc c ns ds M') : False := by
  have rb : ∀ o, rB o M = .exc c ns ds M' → False := fun o h => by
    cases o with
    | none => cases h
    | some b => cases h
  cases op <;> exact rb _ h
theorem pm_chain {op op' : CmpOp} {a b c : Expr} {m1 m2 m3 : ME} {pos : Pos} (hu : X.A.units + 65 < cLine) (ha : PE X a (tE X.K W m1)) (hb : PE X b (tE X.K W m2)) (hc : PE X c (tE X.K W m3)) (hm : lastMarks [op, op'] [b, c] = false) :
    PE X (.Compare a [op, op'] [b, c] pos) (tE X.K W (mChain op op' m1 m2 m3)) :=
  PE.imp' (pe_chain (cmp_any hu op) (cmp_any hu op') (pe_d ha) (pe_d hb) (pe_d hc) hm) fun σ H Q h => by
    refine tD_then (k := fun d1 env M1 => (mD m2 env M1).bind fun d2 M2 => (cmpS op d1 d2 M2).bind fun rv M3 => match rv with
      | .val (.bl true) => (mD m3 env M3).bind fun d3 M4 => cmpS op' d2 d3 M4
      | .val (.bl false) => vB false M3
      | _ => .stuck) h fun d1 M1 F1 io1 H1 x env a1 er1 r1 p1 => ?_
    refine ⟨F1, io1, env, M1, a1, er1, ?_⟩
    cases q2 : mD m2 env M1 with
    | stuck => rw [q2] at p1; exact p1
    | exc c ns ds M' => rw [q2] at p1; exact p1
    | ok d2 M2 =>
      rw [q2] at p1
      intro F2 io2 H2 y a2 b2 r2
      have p2 := PostE.from_ b2 p1
      dsimp only [R.bind] at p2
      refine ⟨F2, io2, M2, d1, d2, W, σ, a2, Rel.mono b2.sub b2.ids _ _ r1, r2, ?_⟩
      cases q3 : cmpS op d1 d2 M2 with
      | stuck => rw [q3] at p2; exact p2
      | exc c ns ds M' => exact (cmpS_exc q3).elim
      | ok rv M3 =>
        rw [q3] at p2
        obtain ⟨em, k, rfl⟩ := cmpS_mem q3
        subst em
        intro F3 io3 H3 z a3 b3 r3
        have p3 := PostE.from_ b3 p2
        refine ⟨k, r3, ?_⟩
        cases k with
        | false => rw [if_neg Bool.false_ne_true]; exact post_val p3 a3 rfl
        | true =>
          rw [if_pos rfl]
          refine ⟨F3, io3, env, M3, a3, (er1.mono b2.sub b2.ids).mono b3.sub b3.ids, ?_⟩
          dsimp only [R.bind] at p3
          cases q4 : mD m3 env M3 with
          | stuck => rw [q4] at p3; exact p3
          | exc c ns ds M' => rw [q4] at p3; exact p3
          | ok d3 M4 =>
            rw [q4] at p3
            intro F4 io4 H4 w a4 b4 r4
            exact ⟨F4, io4, M4, d2, d3, W, σ, a4, Rel.mono b4.sub b4.ids _ _ (Rel.mono b3.sub b3.ids _ _ r2), r4, PostE.from_ b4 p3⟩
theorem tm_val {m : ME} (h : PE X e (tE X.K W m)) (he : ∀ whole, isTrue e X.env whole = (do let v ← whole; standAt e.pos; holding [v] (truthy v))) : PT X e (tT X.K W (mBl m)) :=
  PT.imp' (pt_val h he) fun σ H Q h => tE_bl h
end
end Pc
set_option Elab.async false
set_option linter.all false
set_option maxRecDepth 100000
set_option maxHeartbeats 1000000
set_option autoImplicit false
/-! Pc6: subscripts, slices, fields -/
namespace Pc
open PySem PySem.Spec PyProof.Rows L2

def cutL {α : Type} (xs : List α) (lo hi : Option Int) : List α := (xs.drop (HT.sIx xs.length 0 lo)).take (HT.sIx xs.length xs.length hi - HT.sIx xs.length 0 lo)
def oV (o : Option D) (M : Mem) : R RV := match o with
  | some d => .ok (.val d) M
  | none => .stuck
def idxS (d1 d2 : D) (M : Mem) : R RV := match seqA M d1, d2 with
  | some xs, .int i => oV (atI xs i) M
  | _, _ => match d1, d2 with
    | .str z, .int i => if z.length ≤ sizeLine then oV ((atI z.cps.toList i).map fun c => .str ⟨#[c]⟩) M else .stuck
    | _, _ => match dGet M d1 d2 with
      | some o => oV o M
      | none => .stuck
def slS (d : D) (lo hi : Option Int) (M : Mem) : R RV := match d with
  | .str z => if z.length ≤ sizeLine then .ok (.val (.str (cutS z lo hi))) M else .stuck
  | .tup xs => .ok (.val (.tup (cutL xs lo hi))) M
  | .scr ns => .ok (.own (.lst ((cutL ns lo hi).map D.int))) M
  | d => match seqL M d with
    | some xs => .ok (.own (.lst (cutL xs lo hi))) M
    | none => .stuck
/-- an instance -/
def insOf (M : Mem) : D → Option (Str × List Str × List D)
  | .obj c ns ds => some (c, ns, ds)
  | .ref i => match M[i]? with
    | some (.ins c ns ds) => some (c, ns, ds)
    | _ => none
  | _ => none
def attrS (ok : Str → Str → Bool) (f : Str) (d : D) (M : Mem) : R RV := match insOf M d with
  | some (c, ns, ds) => if ok c f = true then oV (lookD ns ds f) M else .stuck
  | none => .stuck

section
variable {X : Cx} {K : PySem.W.Frag} {F H : Hp} {io : List Addr} {M : Mem}
theorem atI_rel {xs : List D} {vs : List V} {i : Int} {d : D} (l : RelL K F io xs vs) (e : atI xs i = some d) : ∃ v, atI vs i = some v ∧ Rel K F io d v := by
  unfold atI at e ⊢
  rw [← l.length]
  cases h : ixN xs.length i with
  | none => rw [h] at e; cases e
  | some j =>
    rw [h] at e
    exact l.get e
theorem cut_rel {xs : List D} {vs : List V} {lo hi : Option Int} (l : RelL K F io xs vs) : RelL K F io (cutL xs lo hi) (cutV vs lo hi) := by
  unfold cutL cutV
  rw [l.length]
  exact (l.drop _).take _
theorem ints_relL : ∀ (ns : List Int), RelL K F io (ns.map D.int) (ns.map V.int)
  | [] => rfl
  | n :: ns => ⟨_, _, rfl, rfl, ints_relL ns⟩
theorem cutL_map {α β : Type} (f : α → β) (xs : List α) (lo hi : Option Int) : cutL (xs.map f) lo hi = (cutL xs lo hi).map f := by
  unfold cutL
  rw [List.length_map, List.map_take, List.map_drop]
def rIxD : R2 := fun x y H Q => ∃ a v, x = .ref a ∧ DGet H a y (some v) ∧ Q v H
theorem ix_dict (hu : X.A.units + 1 < cLine) : IxR X rIxD := by
  intro value slice pins s σ H x y v u Q I rx ry h hs
  obtain ⟨a, w, rfl, g, q⟩ := h
  obtain rfl : v = Value.ref a := rx
  have hT := dict_typeIs I g
  unfold subscriptTail
  refine wpAny_bind ?_
  rw [getitemInPython_of_ne hT.not_modules]
  refine wpAny_bind (wpAny_specialOf hT PySem.F.slot_dict_getitem.lookup ?_)
  have fin : wpAny (model X.prog X.w) X.A (subscripted slice false (.ref a) u) (fun r s₃ => wpAny (model X.prog X.w) X.A (letTemporaryGo value (.ref a) r >>= fun _ => pure r) (EP X pins σ Q) X.xe s₃) X.xe s := by
    rw [hs]
    exact wpAny_operating (wpAny_mono (d_getItem hu I g ry fun w' s3 I3 rw' => (⟨w, H, I3, rw', q⟩ : EP X pins σ Q w' s3)) (fun r s₃ h₃ => wpAny_bind (wpAny_letTemporaryGo (wpAny_pure h₃))) fun _ _ x => x)
  first
    | exact wpAny_pure (wpAny_bind fin)
    | exact wpAny_bind (wpAny_pure (wpAny_bind fin))
    | exact wpAny_bind fin
theorem oV_some {W : WX} {σ : St} {Q : VK} {o : Option D} (p : PostE K W F io H σ Q (oV o M)) : ∃ d, o = some d ∧ PostE K W F io H σ Q (.ok (.val d) M) := by
  cases o with
  | none => exact p.elim
  | some d => exact ⟨d, rfl, p⟩
theorem ix_any (hu : X.A.units + 1 < cLine) : IxR X (rBin X.K idxS) := by
  intro value slice pins s σ H x y v u Q I rx ry h hs
  obtain ⟨F, io, M, d1, d2, W, σ', ha, r1, r2, p⟩ := h
  have dic : PostE X.K W F io H σ' Q (match dGet M d1 d2 with
      | some o => oV o M
      | none => .stuck) → wpAny (model X.prog X.w) X.A (subscriptTail value slice v u) (EP X pins σ Q) X.xe s := fun p => by
    split at p
    · rename_i o e
      obtain ⟨d, rfl, p⟩ := oV_some p
      obtain ⟨a, ov, rfl, g, g1, _⟩ := dGet_rel ha r1 r2 e
      obtain ⟨w, rfl, rw'⟩ := g1 d rfl
      exact ix_dict hu value slice pins s σ H _ y v u Q I rx ry ⟨a, w, rfl, g, post_val p ha rw'⟩ hs
    · exact p.elim
  unfold idxS at p
  split at p
  · rename_i xs i e
    obtain ⟨d, e2, p⟩ := oV_some p
    obtain ⟨a, vs, rfl, q, l⟩ := ha.seqA r1 e
    obtain ⟨w, hw, rw'⟩ := atI_rel l e2
    obtain rfl := (show y = V.int i from r2)
    rcases q with q | q
    · exact ix_list value slice pins s σ H _ _ v u Q I rx ry ⟨a, vs, i, w, rfl, rfl, q, hw, post_val p ha rw'⟩ hs
    · exact ix_tup value slice pins s σ H _ _ v u Q I rx ry ⟨a, vs, i, w, rfl, rfl, q, hw, post_val p ha rw'⟩ hs
  · split at p
    · rename_i z i _
      obtain rfl := (show x = V.str z from r1)
      obtain rfl := (show y = V.int i from r2)
      split at p
      · rename_i hz
        obtain ⟨d, e2, p⟩ := oV_some p
        cases hc : atI z.cps.toList i with
        | none => rw [hc] at e2; cases e2
        | some c =>
          rw [hc] at e2
          cases e2
          exact ix_str value slice pins s σ H _ _ v u Q I rx ry ⟨z, i, c, rfl, rfl, hz, hc, post_val p ha rfl⟩ hs
      · exact p.elim
    · exact dic p
end
section
variable {X : Cx} {W : WX}
def mIdx (m1 m2 : ME) : ME := fun env M => (mD m1 env M).bind fun d1 M1 => (mD m2 env M1).bind fun d2 M2 => idxS d1 d2 M2
theorem pm_idx {a b : Expr} {m1 m2 : ME} {pos : Pos} (hu : X.A.units + 1 < cLine) (ha : PE X a (tE X.K W m1)) (hb : PE X b (tE X.K W m2)) (hs : PlainIx b) : PE X (.Subscript a b pos) (tE X.K W (mIdx m1 m2)) :=
  PE.imp' (pe_ix (ix_any hu) (pe_d ha) (pe_d hb) hs) fun _ _ _ h => tD2 h
/-! ### slices -/
abbrev MPt := Sl → Mem → R (Option Int)
def mNoPart : MPt := fun _ M => .ok none M
def mPart (m : ME) : MPt := fun env M => (mD m env M).bind fun d M1 => match d with
  | .int i => .ok (some i) M1
  | _ => .stuck
def PostP (K : PySem.W.Frag) (W : WX) (F : Hp) (io : List Addr) (H : Hp) (σ : St) (Q : Option Int → Hp → Prop) : R (Option Int) → Prop
  | .ok b M' => ∀ F' io' H', HA K F' io' H' M' → Ex F io H F' io' H' → Q b H'
  | .exc c ns ds M' => ∀ F' io' H' dd, HA K F' io' H' M' → Ex F io H F' io' H' → ExcAt K F' io' H H' ns ds dd → W (.ref (He.ga K c)) dd σ H'
  | .stuck => False
def tP (K : PySem.W.Frag) (W : WX) (m : MPt) : TO := fun σ H Q => ∃ F io env M, HA K F io H M ∧ ER K F io σ env ∧ PostP K W F io H σ Q (m env M)
theorem PO.imp' {e : Option Expr} {t t' : TO} (h : PO X e t) (i : ∀ σ H Q, t' σ H Q → t σ H Q) : PO X e t' := ⟨fun pins s σ H Q I hw => h.run pins s σ H Q I (i σ H Q hw)⟩
theorem om_none : PO X none (tP X.K W mNoPart) := PO.imp' po_none fun σ H Q h => by
  obtain ⟨F, io, env, M, ha, er, p⟩ := h
  exact p F io H ha .refl
theorem om_some {e : Expr} {m : ME} (h : PE X e (tE X.K W m)) : PO X (some e) (tP X.K W (mPart m)) := PO.imp' (po_some (pe_d h)) fun σ H Q h => by
  obtain ⟨F, io, env, M, ha, er, p⟩ := h
  refine ⟨F, io, env, M, ha, er, ?_⟩
  unfold mPart at p
  cases q : mD m env M with
  | stuck => rw [q] at p; exact p
  | exc c ns ds M' => rw [q] at p; exact p
  | ok d M1 =>
    rw [q] at p
    intro F1 io1 H1 x a b c
    dsimp only [R.bind] at p
    split at p
    · rename_i i; exact ⟨i, c, p F1 io1 H1 a b⟩
    · exact p.elim
def mSlice (m : ME) (lo hi : MPt) : ME := fun env M => (mD m env M).bind fun d M1 => (lo env M1).bind fun l M2 => (hi env M2).bind fun u M3 => slS d l u M3
def rSlAny (K : PySem.W.Frag) : V → Option Int → Option Int → Hp → VK → Prop := fun x lo hi H Q => ∃ F io M d W σ, HA K F io H M ∧ Rel K F io d x ∧ PostE K W F io H σ Q (slS d lo hi M)
theorem sl_any : SlR X (rSlAny X.K) := by
  intro pins s σ H x v vl vu lo hi sl Q I rx hs pl pu h
  obtain ⟨F, io, M, d, W, σ', ha, r, p⟩ := h
  unfold slS at p
  split at p
  · rename_i z
    split at p
    · rename_i hz
      obtain rfl := (show x = V.str z from r)
      exact sl_str pins s σ H _ v vl vu lo hi sl Q I rx hs pl pu ⟨z, rfl, hz, post_val p ha rfl⟩
    · exact p.elim
  · rename_i xs
    have r0 := r
    obtain ⟨a, vs, rfl, q, l⟩ := ha.tup r
    refine sl_tupA pins s σ H _ v vl vu lo hi sl Q I rx hs pl pu ⟨a, vs, rfl, q, fun z => ?_, fun _ b hb => ?_⟩
    · have e : cutL xs lo hi = xs := by
        unfold cutL
        rw [l.length, z.1, z.2, List.drop_zero, Nat.sub_zero, ← l.length, List.take_length]
      rw [e] at p
      exact post_val p ha r0
    · exact post_tup p ha (cut_rel l) hb
  · rename_i ns
    obtain ⟨a, rfl, q⟩ := (show ∃ a, _ = V.ref a ∧ SqL X.K F a (ns.map V.int) from r)
    refine sl_list pins s σ H _ v vl vu lo hi sl Q I rx hs pl pu ⟨a, _, rfl, Same.seq ha.sub q, fun b hb => ?_⟩
    rw [← cutL_map] at p
    exact post_lst p ha (cut_rel (ints_relL ns)) hb
  · split at p
    · rename_i xs e
      obtain ⟨a, vs, rfl, q, l⟩ := ha.lst r e
      exact sl_list pins s σ H _ v vl vu lo hi sl Q I rx hs pl pu ⟨a, vs, rfl, .of q, fun b hb => post_lst p ha (cut_rel l) hb⟩
    · exact p.elim
theorem pm_slice {e : Expr} {lo hi : Option Expr} {m : ME} {ml mh : MPt} {p2 pos : Pos} (he : PE X e (tE X.K W m)) (hl : PO X lo (tP X.K W ml)) (hh : PO X hi (tP X.K W mh)) : PE X (.Subscript e (.Slice lo hi none p2) pos) (tE X.K W (mSlice m ml mh)) :=
  PE.imp' (pe_slice sl_any (pe_d he) hl hh) fun σ H Q h => by
    refine tD_then (k := fun d env M1 => (ml env M1).bind fun l M2 => (mh env M2).bind fun u M3 => slS d l u M3) h fun d M1 F1 io1 H1 x env a1 er1 r1 p1 => ?_
    refine ⟨F1, io1, env, M1, a1, er1, ?_⟩
    cases q2 : ml env M1 with
    | stuck => rw [q2] at p1; exact p1
    | exc c ns ds M' => rw [q2] at p1; exact p1
    | ok l M2 =>
      rw [q2] at p1
      intro F2 io2 H2 a2 b2
      have p2 := PostE.from_ b2 p1
      refine ⟨F2, io2, env, M2, a2, er1.mono b2.sub b2.ids, ?_⟩
      dsimp only [R.bind] at p2
      cases q3 : mh env M2 with
      | stuck => rw [q3] at p2; exact p2
      | exc c ns ds M' => rw [q3] at p2; exact p2
      | ok u M3 =>
        rw [q3] at p2
        intro F3 io3 H3 a3 b3
        exact ⟨F3, io3, M3, d, W, σ, a3, Rel.mono b3.sub b3.ids _ _ (Rel.mono b2.sub b2.ids _ _ r1), PostE.from_ b3 p2⟩
/-! ### fields -/
theorem lookD_lookup {K : PySem.W.Frag} {F : Hp} {io : List Addr} {f : Str} : ∀ {fs : List (Str × V)} {ds : List D}, RelL K F io ds (fs.map (·.2)) →
    (∀ d, lookD (fs.map (·.1)) ds f = some d → ∃ v, fs.lookup f = some v ∧ Rel K F io d v) ∧ (lookD (fs.map (·.1)) ds f = none → fs.lookup f = none)
  | [], ds, h => ⟨fun d e => by simp [lookD] at e, fun _ => rfl⟩
  | (j, x) :: r, ds, h => by
    cases ds with
    | nil => have := (show _ = [] from h); simp at this
    | cons d ds =>
      obtain ⟨v, t, e, h1, h2⟩ := (show ∃ v r, _ = v :: r ∧ Rel K F io d v ∧ RelL K F io ds r from h)
      rw [List.map_cons] at e
      injection e with e1 e2
      subst e1 e2
      obtain ⟨i1, i2⟩ := lookD_lookup (f := f) h2
      rw [List.map_cons, lookD]
      by_cases hk : j = f
      · subst hk
        rw [if_pos rfl, List.lookup_cons, beq_self_eq_true]
        exact ⟨fun d' e => by cases e; exact ⟨_, rfl, h1⟩, fun e => by cases e⟩
      · rw [if_neg hk, List.lookup_cons, show (f == j) = false from by simpa using fun z => hk z.symm]
        exact ⟨i1, i2⟩
theorem HA.ins {K : PySem.W.Frag} {F H : Hp} {io : List Addr} {M : Mem} (h : HA K F io H M) {d : D} {v : V} {c : Str} {ns : List Str} {ds : List D} (r : Rel K F io d v) (e : insOf M d = some (c, ns, ds)) :
    ∃ a dx fs, v = .ref a ∧ H a = some (.ins (He.ga K c) dx fs) ∧ fs.map (·.1) = ns ∧ RelL K F io ds (fs.map (·.2)) := by
  cases d with
  | obj c' ns' ds' =>
    cases e
    obtain ⟨a, dx, fvs, q, q1, q2, q3⟩ := (show ∃ a dx fvs, _ = V.ref a ∧ F a = some (.ins (He.ga K _) dx fvs) ∧ fvs.map (·.1) = _ ∧ RelL K F io _ (fvs.map (·.2)) from r)
    exact ⟨a, dx, fvs, q, h.sub _ _ q1, q2, q3⟩
  | ref i =>
    obtain ⟨a, q, q1⟩ := (show ∃ a, _ = V.ref a ∧ io[i]? = some a from r)
    rw [insOf] at e
    cases hm : M[i]? with
    | none => rw [hm] at e; cases e
    | some o =>
      rw [hm] at e
      cases o with
      | ins c' ns' ds' =>
        cases e
        obtain ⟨a', e1, e2, dx, fvs, e3, e4, e5⟩ := h.at_ i _ hm
        rw [q1] at e1
        cases e1
        exact ⟨a, dx, fvs, q, e3, e4, e5⟩
      | _ => cases e
  | _ => cases e
def mAttr (ok : Str → Str → Bool) (f : Str) (m : ME) : ME := fun env M => (mD m env M).bind fun d M1 => attrS ok f d M1
def notSuper : Expr → Bool
  | .Call (.Name id _) [] [] _ => decide (id ≠ "super")
  | _ => true
theorem base_of {e : Expr} (h : notSuper e = true) (f : Str) (env : PySem.Env) (w : Sem Value) : attributeBase e f env w = w := by
  unfold attributeBase
  split
  · rename_i id p pos
    have hn : (id != ("super" : Str)) = true := by
      have := of_decide_eq_true (show decide (id ≠ ("super" : Str)) = true from h)
      simpa using this
    rw [hn]
    rfl
  · rfl
theorem pm_attr {ok : Str → Str → Bool} {f : Str} {e : Expr} {m : ME} {pos : Pos} (hok : ∀ c, ok c f = true → Cls X.K (He.ga X.K c) ∧ NoAttr X.K (He.ga X.K c) f) (he : PE X e (tE X.K W m)) (hn : notSuper e = true) :
    PE X (.Attribute e f pos) (tE X.K W (mAttr ok f m)) :=
  PE.imp' (pe_fld (pe_d he) (base_of hn f X.env _)) fun σ H Q h => tD_bind h fun d M1 F1 io1 H1 x env a er r p => by
    unfold attrS at p
    split at p
    · rename_i c ns ds hi
      split at p
      · rename_i ho
        obtain ⟨d', e', p'⟩ := oV_some p
        clear p
        obtain ⟨l, dx, fs, rfl, q, rfl, rl⟩ := a.ins r hi
        obtain ⟨v, hv, rv⟩ := (lookD_lookup (f := f) rl).1 d' e'
        exact ⟨l, _, dx, fs, v, rfl, q, (hok c ho).1, (hok c ho).2, hv, post_val p' a rv⟩
      · exact p.elim
    · exact p.elim
end
end Pc
set_option Elab.async false
set_option linter.all false
set_option maxRecDepth 100000
set_option maxHeartbeats 1000000
set_option autoImplicit false
/-! Pc7: built-in functions and methods -/
namespace Pc
open PySem PySem.Spec PyProof.Rows L2

def rCall (K : PySem.W.Frag) (f : List D → Mem → R RV) : List V → Hp → VK → Prop := fun xs H Q => ∃ F io M ds W σ, HA K F io H M ∧ RelL K F io ds xs ∧ PostE K W F io H σ Q (f ds M)
def rMeth (K : PySem.W.Frag) (f : D → List D → Mem → R RV) : V → List V → Hp → VK → Prop := fun x xs H Q => ∃ F io M d ds W σ, HA K F io H M ∧ Rel K F io d x ∧ RelL K F io ds xs ∧ PostE K W F io H σ Q (f d ds M)

/-! ### lists of ints, of texts, of bools -/
def intsOf : List D → Option (List Int)
  | [] => some []
  | .int i :: r => (intsOf r).map (i :: ·)
  | _ :: _ => none
def strsOf : List D → Option (List Str)
  | [] => some []
  | .str i :: r => (strsOf r).map (i :: ·)
  | _ :: _ => none
def blsOf : List D → Option (List Bool)
  | [] => some []
  | .bl i :: r => (blsOf r).map (i :: ·)
  | _ :: _ => none
def maxF : Int → List Int → Int
  | a, [] => a
  | a, b :: r => maxF (max a b) r
def minF : Int → List Int → Int
  | a, [] => a
  | a, b :: r => minF (min a b) r
theorem maxF_ge : ∀ (r : List Int) (a : Int), a ≤ maxF a r ∧ ∀ x ∈ r, x ≤ maxF a r
  | [], a => ⟨Int.le_refl _, fun x h => by cases h⟩
  | b :: r, a => by
    obtain ⟨h1, h2⟩ := maxF_ge r (max a b)
    refine ⟨by show a ≤ maxF (max a b) r; omega, fun x hx => ?_⟩
    rcases List.mem_cons.mp hx with rfl | hx
    · show x ≤ maxF (max a x) r; omega
    · exact h2 x hx
theorem maxF_mem : ∀ (r : List Int) (a : Int), maxF a r ∈ a :: r
  | [], a => by simp [maxF]
  | b :: r, a => by
    have h := maxF_mem r (max a b)
    show maxF (max a b) r ∈ _
    rcases List.mem_cons.mp h with h | h
    · rw [h]
      by_cases c : a ≤ b
      · rw [Int.max_eq_right c]; simp
      · rw [Int.max_eq_left (by omega)]; simp
    · exact List.mem_cons_of_mem _ (List.mem_cons_of_mem _ h)
theorem minF_le : ∀ (r : List Int) (a : Int), minF a r ≤ a ∧ ∀ x ∈ r, minF a r ≤ x
  | [], a => ⟨Int.le_refl _, fun x h => by cases h⟩
  | b :: r, a => by
    obtain ⟨h1, h2⟩ := minF_le r (min a b)
    refine ⟨by show minF (min a b) r ≤ a; omega, fun x hx => ?_⟩
    rcases List.mem_cons.mp hx with rfl | hx
    · show minF (min a x) r ≤ x; omega
    · exact h2 x hx
theorem minF_mem : ∀ (r : List Int) (a : Int), minF a r ∈ a :: r
  | [], a => by simp [minF]
  | b :: r, a => by
    have h := minF_mem r (min a b)
    show minF (min a b) r ∈ _
    rcases List.mem_cons.mp h with h | h
    · rw [h]
      by_cases c : a ≤ b
      · rw [Int.min_eq_left c]; simp
      · rw [Int.min_eq_right (by omega)]; simp
    · exact List.mem_cons_of_mem _ (List.mem_cons_of_mem _ h)
section
variable {K : PySem.W.Frag} {F H : Hp} {io : List Addr} {M : Mem}
theorem ints_rel : ∀ {ds : List D} {vs : List V} {ns : List Int}, RelL K F io ds vs → intsOf ds = some ns → vs = ns.map V.int
  | [], _, _, h, e => by cases e; exact h
  | .int i :: r, _, ns, h, e => by
    obtain ⟨v, t, rfl, h1, h2⟩ := (show ∃ v t, _ = v :: t ∧ Rel K F io (.int i) v ∧ RelL K F io r t from h)
    rw [intsOf] at e
    cases q : intsOf r with
    | none => rw [q] at e; cases e
    | some l => rw [q] at e; cases e; rw [ints_rel h2 q, show v = V.int i from h1]; rfl
  | .non :: _, _, _, _, e | .bl _ :: _, _, _, _, e | .str _ :: _, _, _, _, e | .tup _ :: _, _, _, _, e | .ctup _ :: _, _, _, _, e | .lst _ :: _, _, _, _, e | .ref _ :: _, _, _, _, e | .obj _ _ _ :: _, _, _, _, e | .dic _ _ :: _, _, _, _, e | .dit _ _ :: _, _, _, _, e | .scr _ :: _, _, _, _, e | .fn _ :: _, _, _, _, e | .exo _ _ _ :: _, _, _, _, e | .cau _ _ _ _ _ :: _, _, _, _, e => by cases e
theorem strs_rel : ∀ {ds : List D} {vs : List V} {ns : List Str}, RelL K F io ds vs → strsOf ds = some ns → vs = ns.map V.str
  | [], _, _, h, e => by cases e; exact h
  | .str i :: r, _, ns, h, e => by
    obtain ⟨v, t, rfl, h1, h2⟩ := (show ∃ v t, _ = v :: t ∧ Rel K F io (.str i) v ∧ RelL K F io r t from h)
    rw [strsOf] at e
    cases q : strsOf r with
    | none => rw [q] at e; cases e
    | some l => rw [q] at e; cases e; rw [strs_rel h2 q, show v = V.str i from h1]; rfl
  | .non :: _, _, _, _, e | .bl _ :: _, _, _, _, e | .int _ :: _, _, _, _, e | .tup _ :: _, _, _, _, e | .ctup _ :: _, _, _, _, e | .lst _ :: _, _, _, _, e | .ref _ :: _, _, _, _, e | .obj _ _ _ :: _, _, _, _, e | .dic _ _ :: _, _, _, _, e | .dit _ _ :: _, _, _, _, e | .scr _ :: _, _, _, _, e | .fn _ :: _, _, _, _, e | .exo _ _ _ :: _, _, _, _, e | .cau _ _ _ _ _ :: _, _, _, _, e => by cases e
theorem bls_rel : ∀ {ds : List D} {vs : List V} {ns : List Bool}, RelL K F io ds vs → blsOf ds = some ns → vs = ns.map V.bl
  | [], _, _, h, e => by cases e; exact h
  | .bl i :: r, _, ns, h, e => by
    obtain ⟨v, t, rfl, h1, h2⟩ := (show ∃ v t, _ = v :: t ∧ Rel K F io (.bl i) v ∧ RelL K F io r t from h)
    rw [blsOf] at e
    cases q : blsOf r with
    | none => rw [q] at e; cases e
    | some l => rw [q] at e; cases e; rw [bls_rel h2 q, show v = V.bl i from h1]; rfl
  | .non :: _, _, _, _, e | .str _ :: _, _, _, _, e | .int _ :: _, _, _, _, e | .tup _ :: _, _, _, _, e | .ctup _ :: _, _, _, _, e | .lst _ :: _, _, _, _, e | .ref _ :: _, _, _, _, e | .obj _ _ _ :: _, _, _, _, e | .dic _ _ :: _, _, _, _, e | .dit _ _ :: _, _, _, _, e | .scr _ :: _, _, _, _, e | .fn _ :: _, _, _, _, e | .exo _ _ _ :: _, _, _, _, e | .cau _ _ _ _ _ :: _, _, _, _, e => by cases e
theorem relL1 {d : D} {vs : List V} (h : RelL K F io [d] vs) : ∃ v, vs = [v] ∧ Rel K F io d v := by
  obtain ⟨v, t, rfl, h1, h2⟩ := (show ∃ v t, _ = v :: t ∧ Rel K F io d v ∧ RelL K F io [] t from h)
  obtain rfl := (show t = [] from h2)
  exact ⟨v, rfl, h1⟩
theorem relL2 {d e : D} {vs : List V} (h : RelL K F io [d, e] vs) : ∃ v u, vs = [v, u] ∧ Rel K F io d v ∧ Rel K F io e u := by
  obtain ⟨v, t, rfl, h1, h2⟩ := (show ∃ v t, _ = v :: t ∧ Rel K F io d v ∧ RelL K F io [e] t from h)
  obtain ⟨u, rfl, h3⟩ := relL1 h2
  exact ⟨v, u, rfl, h1, h3⟩
/-- an object of the memory is changed -/
theorem HA.write {i : Nat} {a : Addr} {o : MO} {u : HO} (h : HA K F io H M) (e : io[i]? = some a) (r : MR K F io (upd H a u) a o) : HA K F io (upd H a u) (M.set i o) ∧ Ex F io H F io (upd H a u) := by
  have hi : i < M.length := by rw [← h.len]; exact (List.getElem?_eq_some_iff.mp e).1
  obtain ⟨a', e1, e2, e3⟩ := h.at_ i _ (List.getElem?_eq_getElem hi)
  rw [e] at e1
  cases e1
  have nF : ∀ b w, F b = some w → b ≠ a := fun b w q z => by rw [z, e2] at q; cases q
  refine ⟨⟨fun b w q => by rw [upd_ne (nF b w q)]; exact h.sub b w q, by rw [List.length_set]; exact h.len, h.nd, fun j w q => ?_⟩, ⟨Same.refl _, fun _ _ z => z, fun b w q n => ?_, fun _ _ z => .inl z, fun _ z => .inl z, fun b z => ?_⟩⟩
  · by_cases hj : j = i
    · subst hj
      rw [List.getElem?_set_self hi] at q
      cases q
      exact ⟨a, e, e2, r⟩
    · rw [List.getElem?_set_ne (Ne.symm hj)] at q
      obtain ⟨c, f1, f2, f3⟩ := h.at_ j w q
      refine ⟨c, f1, f2, f3.mono (Same.refl _) (fun _ _ z => z) ?_⟩
      refine upd_ne fun z => hj ?_
      subst z
      obtain ⟨h1, g1⟩ := List.getElem?_eq_some_iff.mp f1
      obtain ⟨h2, g2⟩ := List.getElem?_eq_some_iff.mp e
      exact (List.getElem_inj h.nd).mp (g1.trans g2.symm)
  · have hb : b ≠ a := fun z => by rw [z] at n; exact n (List.mem_of_getElem? e)
    rw [upd_ne hb]
    exact q
  · by_cases q : b = a
    · subst q; rw [upd_same]; exact fun z => nomatch z
    · rw [upd_ne q]; exact z
end

/-! ### functions -/
def lenS (ds : List D) (M : Mem) : R RV := match ds with
  | [.str z] => if z.length ≤ sizeLine then vI z.length M else .stuck
  | [.scr ns] => vI ns.length M
  | [d] => match seqA M d with
    | some xs => vI xs.length M
    | none => match dicK M d with
      | some (ks, _) => vI ks.length M
      | none => .stuck
  | _ => .stuck
def absS (ds : List D) (M : Mem) : R RV := match ds with
  | [.int i] => vI (if i < 0 then -i else i) M
  | _ => .stuck
def intS (ds : List D) (M : Mem) : R RV := match ds with
  | [.int i] => vI i M
  | [.bl b] => vI (if b then 1 else 0) M
  | [.str x] => if x.length ≤ 640 then (match PySem.intText? x with
    | some n => vI n M
    | none => .stuck) else .stuck
  | _ => .stuck
def strS (ds : List D) (M : Mem) : R RV := match ds with
  | [.int i] => if i.natAbs.log2 < 1920 then .ok (.val (.str (toString i))) M else .stuck
  | [.str x] => .ok (.val (.str x)) M
  | _ => .stuck
def lI (M : Mem) (d : D) : Option (List Int) := (seqL M d).bind intsOf
def maxS (ds : List D) (M : Mem) : R RV := match ds with
  | [d] => (match lI M d with
    | some (a :: r) => vI (maxF a r) M
    | _ => .stuck)
  | [.int i, .int j] => vI (if j > i then j else i) M
  | _ => .stuck
def minS (ds : List D) (M : Mem) : R RV := match ds with
  | [d] => (match lI M d with
    | some (a :: r) => vI (minF a r) M
    | _ => .stuck)
  | [.int i, .int j] => vI (if j < i then j else i) M
  | _ => .stuck
def sumS (ds : List D) (M : Mem) : R RV := match ds with
  | [d] => (match lI M d with
    | some ns => vI ns.sum M
    | _ => .stuck)
  | _ => .stuck
def allS (ds : List D) (M : Mem) : R RV := match ds with
  | [d] => (match (seqL M d).bind blsOf with
    | some bs => vB (bs.all id) M
    | _ => .stuck)
  | _ => .stuck
def anyS (ds : List D) (M : Mem) : R RV := match ds with
  | [d] => (match (seqL M d).bind blsOf with
    | some bs => vB (bs.any id) M
    | _ => .stuck)
  | _ => .stuck
def listS (ds : List D) (M : Mem) : R RV := match ds with
  | [d] => (match seqA M d with
    | some xs => .ok (.own (.lst xs)) M
    | none => .stuck)
  | _ => .stuck
def tupleS (ds : List D) (M : Mem) : R RV := match ds with
  | [.tup xs] => .ok (.val (.tup xs)) M
  | [d] => (match seqL M d with
    | some xs => .ok (.val (.tup xs)) M
    | none => .stuck)
  | _ => .stuck
section
variable {X : Cx}
theorem blt_len : CallR X (.builtin "len") (rCall X.K lenS) := by
  intro pins s σ H xs us Q I r h
  obtain ⟨F, io, M, ds, W, σ', ha, rl, p⟩ := h
  unfold lenS at p
  split at p
  · rename_i z
    obtain ⟨v, rfl, h1⟩ := relL1 rl
    obtain rfl := (show v = V.str z from h1)
    split at p
    · rename_i hz
      exact call_len_str pins s σ H _ us Q I r ⟨z, rfl, hz, post_val p ha rfl⟩
    · exact p.elim
  · rename_i ns
    obtain ⟨v, rfl, h1⟩ := relL1 rl
    obtain ⟨a, rfl, q⟩ := (show ∃ a, v = V.ref a ∧ SqL X.K F a (ns.map V.int) from h1)
    have := post_val p ha rfl
    exact call_len_seq pins s σ H _ us Q I r ⟨a, ns.map V.int, rfl, .inl (Same.seq ha.sub q), by rw [List.length_map]; exact this⟩
  · obtain ⟨v, rfl, h1⟩ := relL1 rl
    split at p
    · rename_i xs e
      obtain ⟨a, vs, rfl, q, l⟩ := ha.seqA h1 e
      have := post_val p ha rfl
      exact call_len_seq pins s σ H _ us Q I r ⟨a, vs, rfl, q, by rw [← l.length]; exact this⟩
    · split at p
      · rename_i ks ds' e
        obtain ⟨a, kvs, rfl, q, n, l⟩ := ha.dicK h1 e
        have := post_val p ha rfl
        refine call_lenD pins s σ H _ us Q I r ⟨a, kvs, rfl, q, ?_⟩
        rw [← n, List.length_map] at this
        exact this
      · exact p.elim
  · exact p.elim
theorem blt_abs : CallR X (.builtin "abs") (rCall X.K absS) := by
  intro pins s σ H xs us Q I r h
  obtain ⟨F, io, M, ds, W, σ', ha, rl, p⟩ := h
  unfold absS at p
  split at p
  · rename_i i
    obtain ⟨v, rfl, h1⟩ := relL1 rl
    obtain rfl := (show v = V.int i from h1)
    exact call_abs pins s σ H _ us Q I r ⟨i, rfl, post_val p ha rfl⟩
  · exact p.elim
theorem blt_int : CallR X (.type "int") (rCall X.K intS) := by
  intro pins s σ H xs us Q I r h
  obtain ⟨F, io, M, ds, W, σ', ha, rl, p⟩ := h
  unfold intS at p
  split at p
  · rename_i i
    obtain ⟨v, rfl, h1⟩ := relL1 rl
    obtain rfl := (show v = V.int i from h1)
    exact call_int1 pins s σ H _ us Q I r (.inl ⟨i, rfl, post_val p ha rfl⟩)
  · rename_i b
    obtain ⟨v, rfl, h1⟩ := relL1 rl
    obtain rfl := (show v = V.bl b from h1)
    exact call_int1 pins s σ H _ us Q I r (.inr ⟨b, rfl, post_val p ha rfl⟩)
  · rename_i x
    obtain ⟨v, rfl, h1⟩ := relL1 rl
    obtain rfl := (show v = V.str x from h1)
    split at p
    · rename_i hz
      split at p
      · rename_i n e
        exact call_int_str pins s σ H _ us Q I r ⟨x, n, rfl, e, hz, post_val p ha rfl⟩
      · exact p.elim
    · exact p.elim
  · exact p.elim
theorem blt_str : CallR X (.type "str") (rCall X.K strS) := by
  intro pins s σ H xs us Q I r h
  obtain ⟨F, io, M, ds, W, σ', ha, rl, p⟩ := h
  unfold strS at p
  split at p
  · rename_i i
    obtain ⟨v, rfl, h1⟩ := relL1 rl
    obtain rfl := (show v = V.int i from h1)
    split at p
    · rename_i hz
      exact call_str_int pins s σ H _ us Q I r ⟨i, rfl, hz, post_val p ha rfl⟩
    · exact p.elim
  · rename_i x
    obtain ⟨v, rfl, h1⟩ := relL1 rl
    obtain rfl := (show v = V.str x from h1)
    exact SkE.call_str_str pins s σ H _ us Q I r ⟨x, rfl, post_val p ha rfl⟩
  · exact p.elim
theorem lI_rel {K : PySem.W.Frag} {F H : Hp} {io : List Addr} {M : Mem} {d : D} {v : V} {ns : List Int} (ha : HA K F io H M) (r : Rel K F io d v) (e : lI M d = some ns) : ∃ a, v = .ref a ∧ H a = some (.lst (ns.map V.int)) := by
  unfold lI at e
  cases h : seqL M d with
  | none => rw [h] at e; cases e
  | some xs =>
    rw [h] at e
    obtain ⟨a, vs, rfl, q, l⟩ := ha.lst r h
    exact ⟨a, rfl, by rw [q, ints_rel l e]⟩
theorem blt_max (hc : X.calm = true) : CallR X (.builtin "max") (rCall X.K maxS) := by
  intro pins s σ H xs us Q I r h
  obtain ⟨F, io, M, ds, W, σ', ha, rl, p⟩ := h
  unfold maxS at p
  split at p
  · obtain ⟨v, rfl, h1⟩ := relL1 rl
    split at p
    · rename_i a t e
      obtain ⟨l, rfl, q⟩ := lI_rel ha h1 e
      refine cr_max hc pins s σ H _ us Q I r ⟨l, a :: t, rfl, .of q, Nat.succ_pos _, fun m hm h2 => ?_⟩
      have g := maxF_ge t a
      have hm' := maxF_mem t a
      have h3 := h2 _ hm'
      have h4 : m ≤ maxF a t := by
        rcases List.mem_cons.mp hm with rfl | hm
        · exact g.1
        · exact g.2 m hm
      have : m = maxF a t := Int.le_antisymm h4 h3
      subst this
      exact post_val p ha rfl
    · exact p.elim
  · rename_i i j
    obtain ⟨v, u, rfl, h1, h2⟩ := relL2 rl
    obtain rfl := (show v = V.int i from h1)
    obtain rfl := (show u = V.int j from h2)
    exact call_max2 hc pins s σ H _ us Q I r ⟨i, j, rfl, post_val p ha rfl⟩
  · exact p.elim
theorem blt_min (hc : X.calm = true) : CallR X (.builtin "min") (rCall X.K minS) := by
  intro pins s σ H xs us Q I r h
  obtain ⟨F, io, M, ds, W, σ', ha, rl, p⟩ := h
  unfold minS at p
  split at p
  · obtain ⟨v, rfl, h1⟩ := relL1 rl
    split at p
    · rename_i a t e
      obtain ⟨l, rfl, q⟩ := lI_rel ha h1 e
      refine cr_min hc pins s σ H _ us Q I r ⟨l, a :: t, rfl, .of q, Nat.succ_pos _, fun m hm h2 => ?_⟩
      have g := minF_le t a
      have hm' := minF_mem t a
      have h3 := h2 _ hm'
      have h4 : minF a t ≤ m := by
        rcases List.mem_cons.mp hm with rfl | hm
        · exact g.1
        · exact g.2 m hm
      have : m = minF a t := Int.le_antisymm h3 h4
      subst this
      exact post_val p ha rfl
    · exact p.elim
  · rename_i i j
    obtain ⟨v, u, rfl, h1, h2⟩ := relL2 rl
    obtain rfl := (show v = V.int i from h1)
    obtain rfl := (show u = V.int j from h2)
    exact call_min2 hc pins s σ H _ us Q I r ⟨i, j, rfl, post_val p ha rfl⟩
  · exact p.elim
theorem blt_sum (hc : X.calm = true) : CallR X (.builtin "sum") (rCall X.K sumS) := by
  intro pins s σ H xs us Q I r h
  obtain ⟨F, io, M, ds, W, σ', ha, rl, p⟩ := h
  unfold sumS at p
  split at p
  · obtain ⟨v, rfl, h1⟩ := relL1 rl
    split at p
    · rename_i ns e
      obtain ⟨l, rfl, q⟩ := lI_rel ha h1 e
      exact cr_sum hc pins s σ H _ us Q I r ⟨l, ns, rfl, .of q, post_val p ha rfl⟩
    · exact p.elim
  · exact p.elim
theorem lB_rel {K : PySem.W.Frag} {F H : Hp} {io : List Addr} {M : Mem} {d : D} {v : V} {ns : List Bool} (ha : HA K F io H M) (r : Rel K F io d v) (e : (seqL M d).bind blsOf = some ns) : ∃ a, v = .ref a ∧ H a = some (.lst (ns.map V.bl)) := by
  cases h : seqL M d with
  | none => rw [h] at e; cases e
  | some xs =>
    rw [h] at e
    obtain ⟨a, vs, rfl, q, l⟩ := ha.lst r h
    exact ⟨a, rfl, by rw [q, bls_rel l e]⟩
theorem blt_all (hc : X.calm = true) : CallR X (.builtin "all") (rCall X.K allS) := by
  intro pins s σ H xs us Q I r h
  obtain ⟨F, io, M, ds, W, σ', ha, rl, p⟩ := h
  unfold allS at p
  split at p
  · obtain ⟨v, rfl, h1⟩ := relL1 rl
    split at p
    · rename_i ns e
      obtain ⟨l, rfl, q⟩ := lB_rel ha h1 e
      exact cr_all hc pins s σ H _ us Q I r ⟨l, ns, rfl, .of q, post_val p ha rfl⟩
    · exact p.elim
  · exact p.elim
theorem blt_any (hc : X.calm = true) : CallR X (.builtin "any") (rCall X.K anyS) := by
  intro pins s σ H xs us Q I r h
  obtain ⟨F, io, M, ds, W, σ', ha, rl, p⟩ := h
  unfold anyS at p
  split at p
  · obtain ⟨v, rfl, h1⟩ := relL1 rl
    split at p
    · rename_i ns e
      obtain ⟨l, rfl, q⟩ := lB_rel ha h1 e
      exact cr_any hc pins s σ H _ us Q I r ⟨l, ns, rfl, .of q, post_val p ha rfl⟩
    · exact p.elim
  · exact p.elim
theorem blt_list : CallR X (.type "list") (rCall X.K listS) := by
  intro pins s σ H xs us Q I r h
  obtain ⟨F, io, M, ds, W, σ', ha, rl, p⟩ := h
  unfold listS at p
  split at p
  · obtain ⟨v, rfl, h1⟩ := relL1 rl
    split at p
    · rename_i xs e
      obtain ⟨a, vs, rfl, q, l⟩ := ha.seqA h1 e
      exact call_list_of pins s σ H _ us Q I r ⟨a, vs, rfl, q, fun b hb => post_lst p ha l hb⟩
    · exact p.elim
  · exact p.elim
theorem blt_tuple : CallR X (.type "tuple") (rCall X.K tupleS) := by
  intro pins s σ H xs us Q I r h
  obtain ⟨F, io, M, ds, W, σ', ha, rl, p⟩ := h
  unfold tupleS at p
  split at p
  · rename_i xs
    obtain ⟨v, rfl, h1⟩ := relL1 rl
    obtain ⟨a, vs, rfl, q, l⟩ := ha.tup h1
    exact call_tuple_of pins s σ H _ us Q I r ⟨a, vs, rfl, .inr ⟨q, post_val p ha h1⟩⟩
  · obtain ⟨v, rfl, h1⟩ := relL1 rl
    split at p
    · rename_i xs e
      obtain ⟨a, vs, rfl, q, l⟩ := ha.lst h1 e
      exact call_tuple_of pins s σ H _ us Q I r ⟨a, vs, rfl, .inl ⟨.of q, fun b hb => post_tup p ha l hb⟩⟩
    · exact p.elim
  · exact p.elim
end
/-- a built-in by its name: is it a type; its meaning -/
def bltF (x : Str) : Option (List D → Mem → R RV) :=
  if x = "len" then some lenS else if x = "abs" then some absS else if x = "int" then some intS else if x = "str" then some strS
  else if x = "max" then some maxS else if x = "min" then some minS else if x = "sum" then some sumS else if x = "all" then some allS
  else if x = "any" then some anyS else if x = "list" then some listS else if x = "tuple" then some tupleS else none
/-- what bltF gives is called so -/
structure Blt (X : Cx) (x : Str) (f : List D → Mem → R RV) : Prop where
  ex : ∃ u, bootBuiltins x = some u ∧ ((∃ id, u = .builtin id) ∨ ∃ T, u = .type T) ∧ CallR X u (rCall X.K f)
  nn : x ≠ "__name__"
  nd : (x == ("__debug__" : Str)) = false
theorem bltF_ok {X : Cx} (hc : X.calm = true) {x : Str} {f : List D → Mem → R RV} (h : bltF x = some f) : Blt X x f := by
  unfold bltF at h
  split at h
  · rename_i e; subst e; cases h; exact ⟨⟨_, PySem.boot_len, .inl ⟨_, rfl⟩, blt_len⟩, by decide +kernel, by decide +kernel⟩
  split at h
  · rename_i e; subst e; cases h; exact ⟨⟨_, by decide +kernel, .inl ⟨_, rfl⟩, blt_abs⟩, by decide +kernel, by decide +kernel⟩
  split at h
  · rename_i e; subst e; cases h; exact ⟨⟨_, by decide +kernel, .inr ⟨_, rfl⟩, blt_int⟩, by decide +kernel, by decide +kernel⟩
  split at h
  · rename_i e; subst e; cases h; exact ⟨⟨_, by decide +kernel, .inr ⟨_, rfl⟩, blt_str⟩, by decide +kernel, by decide +kernel⟩
  split at h
  · rename_i e; subst e; cases h; exact ⟨⟨_, by decide +kernel, .inl ⟨_, rfl⟩, blt_max hc⟩, by decide +kernel, by decide +kernel⟩
  split at h
  · rename_i e; subst e; cases h; exact ⟨⟨_, by decide +kernel, .inl ⟨_, rfl⟩, blt_min hc⟩, by decide +kernel, by decide +kernel⟩
  split at h
  · rename_i e; subst e; cases h; exact ⟨⟨_, by decide +kernel, .inl ⟨_, rfl⟩, blt_sum hc⟩, by decide +kernel, by decide +kernel⟩
  split at h
  · rename_i e; subst e; cases h; exact ⟨⟨_, by decide +kernel, .inl ⟨_, rfl⟩, blt_all hc⟩, by decide +kernel, by decide +kernel⟩
  split at h
  · rename_i e; subst e; cases h; exact ⟨⟨_, by decide +kernel, .inl ⟨_, rfl⟩, blt_any hc⟩, by decide +kernel, by decide +kernel⟩
  split at h
  · rename_i e; subst e; cases h; exact ⟨⟨_, by decide +kernel, .inr ⟨_, rfl⟩, blt_list⟩, by decide +kernel, by decide +kernel⟩
  split at h
  · rename_i e; subst e; cases h; exact ⟨⟨_, by decide +kernel, .inr ⟨_, rfl⟩, blt_tuple⟩, by decide +kernel, by decide +kernel⟩
  · cases h
end Pc
set_option Elab.async false
set_option linter.all false
set_option maxRecDepth 100000
set_option maxHeartbeats 2000000
set_option autoImplicit false
/-! PcRp: repr of ints, texts, lists and tuples -/
namespace Pc
open PySem PySem.Spec PyProof.Rows L2
def reprS (ds : List D) (M : Mem) : R RV := match ds with
  | [d] => (match d.py M with
    | some p => if p.showable && !p.hasDict && decide (p.depth ≤ 50) && decide (p.shown.length ≤ sizeLine) then .ok (.val (.str p.shown)) M else .stuck
    | none => .stuck)
  | _ => .stuck
theorem blt_repr {X : Cx} (hg : X.A.guards = some []) (hu : X.A.units + 65 < cLine) : CallR X (.builtin "repr") (rCall X.K reprS) := by
  intro pins s σ H xs us Q I r h
  obtain ⟨F, io, M, ds, W, σ', ha, rl, p⟩ := h
  unfold reprS at p
  split at p
  · rename_i d
    obtain ⟨v, rfl, h1⟩ := relL1 rl
    split at p
    · rename_i q hq
      split at p
      · rename_i hc
        simp only [Bool.and_eq_true, Bool.not_eq_true', decide_eq_true_eq] at hc
        obtain ⟨⟨⟨c1, c2⟩, c3⟩, c4⟩ := hc
        cases r with
        | @cons _ u _ us' ru rr =>
          cases rr
          have dp := ha.dp h1 hq
          obtain ⟨as, rd⟩ := Dp.reads I q v u dp ru
          have fin : ∀ (h' : Heap) (tk : Tok) (t' : Nat), (∀ b o, s.heap.get? b = some o → h'.get? b = some o) → EP X pins σ Q (.str q.shown tk) { s with heap := h', toks := t' } := fun h' tk t' k => ⟨.str q.shown, H, I.kept k, ⟨tk, rfl⟩, post_val p ha rfl⟩
          cases rd with
          | none => exact PySem.P.repr_of_none (fin _ _ _ fun _ _ z => z)
          | bool b => exact PySem.P.repr_of_bool (fin _ _ _ fun _ _ z => z)
          | int i t => exact PySem.P.repr_of_int (of_decide_eq_true c1) (fin _ _ _ fun _ _ z => z)
          | str x t => exact PySem.P.repr_of_str (fin _ _ _ fun _ _ z => z) c4
          | list h1 h2 h3 h4 => exact repr_of_reads' (Reads.list h1 h2 h3 h4) c1 (PySem.PyData.noDict_hsm c2) hg (by omega) (fun _ _ z => z) (fun h' u tk k => fin h' u tk k) c4
          | tuple h1 h2 h3 h4 => exact repr_of_reads' (Reads.tuple h1 h2 h3 h4) c1 (PySem.PyData.noDict_hsm c2) hg (by omega) (fun _ _ z => z) (fun h' u tk k => fin h' u tk k) c4
          | dict h1 h2 h3 h4 h5 => cases c2
      · exact p.elim
    · exact p.elim
  · exact p.elim
end Pc
set_option Elab.async false
set_option linter.all false
set_option maxRecDepth 100000
set_option maxHeartbeats 1000000
set_option autoImplicit false
/-! Pc8: calls -/
namespace Pc
open PySem PySem.Spec PyProof.Rows L2

def noStar : Expr → Bool
  | .Starred .. => false
  | _ => true
theorem star_cons {e : Expr} (h : noStar e = true) (es : List Expr) (env : PySem.Env) : starEach (e :: es) env = (false, eval e env) :: starEach es env := by
  cases e <;> first | rfl | cases h
theorem star_any : ∀ {es : List Expr}, es.all noStar = true → ∀ (env : PySem.Env) (pos : Pos), (backTo pos (starEach es env)).any (·.1) = false
  | [], _, _, _ => rfl
  | e :: es, h, env, pos => by
    rw [List.all_cons, Bool.and_eq_true] at h
    rw [star_cons h.1]
    show (false || (backTo pos (starEach es env)).any (·.1)) = false
    rw [star_any h.2 env pos]
    rfl
theorem star_all : ∀ {es : List Expr}, es.all noStar = true → ∀ (env : PySem.Env) (pos : Pos), (backTo pos (starEach es env)).all (fun x => !x.1) = true
  | [], _, _, _ => rfl
  | e :: es, h, env, pos => by
    rw [List.all_cons, Bool.and_eq_true] at h
    rw [star_cons h.1]
    show (!false && (backTo pos (starEach es env)).all (fun x => !x.1)) = true
    rw [star_all h.2 env pos]
    rfl
theorem few_of {es : List Expr} (h : es.all noStar = true) (hl : es.length < 30) (env : PySem.Env) (pos : Pos) : methodCallForm (es.length + ([] : List Keyword).length) (backTo pos (starEach es env)) (backToKw pos (keywordEach [] env)) = true := by
  unfold methodCallForm
  have e1 := star_all h env pos
  rw [Bool.and_eq_true, Bool.and_eq_true]
  refine ⟨⟨e1, rfl⟩, ?_⟩
  show decide (es.length + 0 + 0 < 30) = true
  exact decide_eq_true (by omega)
section
variable {X : Cx} {W : WX} {o e : Expr} {es : List Expr} {name : Str} {apos pos : Pos}
/-- what a method call comes to -/
theorem eval_meth (hb : attributeBase o name X.env (eval o X.env) = eval o X.env) (hn : es.all noStar = true) (hl : es.length < 30) (hline : (apos.endLine == pos.line) = true) :
    eval (.Call (.Attribute o name apos) es [] pos) X.env = (do
      let ov ← eval o X.env
      standAt apos.atName
      let (f, first) ← holding [ov] (getMethod ov name (do return (← importBound o X.env).getD true))
      callWith pos f first (backTo pos (starEach es X.env)) (backToKw pos (keywordEach [] X.env))) := by
  rw [arm_eval_Call, hb]
  have hform := few_of hn hl X.env pos
  have hpos : methodCallPos true o X.env apos pos = pure pos := by unfold methodCallPos; simp [hline]
  unfold methodCall
  rw [hform, hpos]
  rfl
/-- a method of a built-in type, by its name -/
structure MethB (X : Cx) (name : Str) (T : String) (f : D → List D → Mem → R RV) : Prop where
  ex : ∃ id, PlainAttrs T ∧ Slot T name id ∧ typeOf (.builtin id) = pure (.type "method_descriptor") ∧ MtR X id (rMeth X.K f)
/-- a function's promise by its meaning -/
def spF (K : PySem.W.Frag) (φ : List D → Mem → R RV) (n : Nat) : Sp := fun vs H Q E => vs.length = n ∧ ∃ F io M ds, HA K F io H M ∧ RelL K F io ds vs ∧ PostE K (fun c d _ H' => E c d H') F io H [] Q (φ ds M)
theorem spF_len {K : PySem.W.Frag} {φ : List D → Mem → R RV} {n : Nat} : ∀ vs H Q E, spF K φ n vs H Q E → vs.length = n := fun _ _ _ _ h => h.1
theorem spF_of {K : PySem.W.Frag} {φ : List D → Mem → R RV} {n : Nat} {W : WX} {F H : Hp} {io : List Addr} {M : Mem} {σ : St} {Q : VK} {ds : List D} {vs : List V} (ha : HA K F io H M) (rl : RelL K F io ds vs) (hn : ds.length = n) (p : PostE K W F io H σ Q (φ ds M)) :
    spF K φ n vs H Q (WE W σ) := by
  refine ⟨by rw [← rl.length]; exact hn, F, io, M, ds, ha, rl, ?_⟩
  cases h : φ ds M with
  | ok rv M' => rw [h] at p; exact p
  | exc c ns ds M' => rw [h] at p; exact p
  | stuck => rw [h] at p; exact p
/-- the promise of a def where no repr is under way -/
structure FnOkG (P : Program) (w : World) (K : PySem.W.Frag) (mg : Str → Option Value) (base : Heap) (CX : CXT) (k : Nat) (f : Addr) (fd : FuncData) (ps : List Str) (sp : Sp) : Prop where
  len : ∀ vs H Q E, sp vs H Q E → vs.length = ps.length
  run : ∀ (A : Around) (outer : List PySem.Env) (s : Shared) (H : Hp) (args : Args) (us : List Value) (vs : List V) (Q : VK) (E : XK), A.guards = some [] → Room k A → Env0 P w K mg base A outer s H → BindsTo s fd args (ps.zip us) → Vals vs us → sp vs H Q E →
    codeAny (model P w) A (.call (.ref f) args) (L2.CR CX outer P w H s Q E) s
/-- a def of the text that keeps its meaning's promise: f its address, n its parameters -/
structure FnM (X : Cx) (lev : Nat) (f : Addr) (n : Nat) (φ : List D → Mem → R RV) : Prop where
  gd : X.A.guards = some []
  ex : ∃ fd ps, FnOkG X.prog X.w X.K X.mg X.base (L2.CX X.prog X.w) lev f fd ps (spF X.K φ n) ∧ Binds X.K fd ps []
/-- a def called by values -/
theorem run_fm {lev n : Nat} {f : Addr} {φ : List D → Mem → R RV} {pins : List (Addr × Obj)} {σ : St} {H : Hp} {s : Shared} {Q : VK} {us : List Value} {vs : List V} (F : FnM X lev f n φ) (hr : Room lev X.A) (tk : Takes X W)
    (I : Inv X pins σ H s) (r : Vals vs us) (h : spF X.K φ n vs H Q (WE W σ)) : wpAny (model X.prog X.w) X.A (call (.ref f) us) (EP X pins σ Q) X.xe s := by
  have gd := F.gd
  obtain ⟨fd, ps, F, b⟩ := F.ex
  have hl : us.length = ps.length := by rw [← r.length]; exact F.len _ _ _ _ h
  have b' := b s us I.kIn (by rw [List.append_nil]; exact hl)
  rw [List.append_nil] at b'
  refine wpAny_call (codeAny_mono (F.run X.A X.stack s H ⟨us, []⟩ us vs Q (WE W σ) gd hr I.env0 b' r h) fun r s' hq => ?_)
  cases r with
  | error e => exact passAt tk σ pins H s e s' I hq
  | ok fl =>
    cases fl with
    | ret u => exact I.after hq
    | next => exact False.elim hq
    | brk => exact False.elim hq
    | cont => exact False.elim hq
/-! ### methods -/
/-- the built-in types' methods: by the receiver's type -/
abbrev Alts := List (String × (D → List D → Mem → R RV))
def tyD (M : Mem) : D → Option String
  | .str _ => some "str"
  | .lst _ => some "list"
  | .dic _ _ => some "dict"
  | .dit _ _ => some "dict"
  | .ref i => match M[i]? with
    | some (.lst _) => some "list"
    | some (.dk _ _) => some "dict"
    | some (.dt _ _) => some "dict"
    | _ => none
  | _ => none
theorem tyD_rel {K : PySem.W.Frag} {F H : Hp} {io : List Addr} {M : Mem} {d : D} {x : V} {T : String} (ha : HA K F io H M) (r : Rel K F io d x) (e : tyD M d = some T) : tyV K T x H := by
  cases d with
  | str z => rw [show x = .str z from r]; cases e; rfl
  | lst xs =>
    cases e
    obtain ⟨a, vs, rfl, q, _⟩ := ha.lst (xs := xs) r rfl
    exact .inl ⟨rfl, vs, .of q⟩
  | dic ks ds =>
    cases e
    obtain ⟨a, vs, rfl, q, _⟩ := ha.dicK (ks := ks) (ds := ds) r rfl
    exact .inr (.inr (.inl ⟨rfl, .inl ⟨vs, q⟩⟩))
  | dit ks ds =>
    cases e
    obtain ⟨a, vs, rfl, q, _⟩ := ha.dicT (ks := ks) (ds := ds) r rfl
    exact .inr (.inr (.inl ⟨rfl, .inr ⟨vs, q⟩⟩))
  | ref i =>
    unfold tyD at e
    dsimp only at e
    split at e
    · rename_i xs h
      cases e
      obtain ⟨a, vs, rfl, q, _⟩ := ha.lst (xs := xs) r (by rw [seqL, h])
      exact .inl ⟨rfl, vs, .of q⟩
    · rename_i ks ds h
      cases e
      obtain ⟨a, vs, rfl, q, _⟩ := ha.dicK (ks := ks) (ds := ds) r (by rw [Pc.dicK, h])
      exact .inr (.inr (.inl ⟨rfl, .inl ⟨vs, q⟩⟩))
    · rename_i ks ds h
      cases e
      obtain ⟨a, vs, rfl, q, _⟩ := ha.dicT (ks := ks) (ds := ds) r (by rw [Pc.dicT, h])
      exact .inr (.inr (.inl ⟨rfl, .inr ⟨vs, q⟩⟩))
    · cases e
  | _ => cases e
/-- an own class's method: its number of parameters (self among them) and its meaning -/
abbrev OwnM := Str → Option (Nat × (List D → Mem → R RV))
/-- the own classes are right about the method -/
structure OwnOk (X : Cx) (lev : Nat) (name : Str) (own : OwnM) : Prop where
  ok : ∀ c n φ, own c = some (n, φ) → ∃ g, Cls X.K (He.ga X.K c) ∧ Meth X.K (He.ga X.K c) name g ∧ FnM X lev g n φ
def mMeth (alts : Alts) (own : OwnM) (name : Str) (m : ME) (ms : MDs) : ME := fun env M => (mD m env M).bind fun d M1 =>
  match tyD M1 d with
  | some T => (match alts.lookup T with
    | some f => (ms env M1).bind fun ds M2 => f d ds M2
    | none => .stuck)
  | none => match insOf M1 d with
    | some (c, ns, _) => (match own c with
      | some (n, φ) => if name ∈ ns then .stuck else (ms env M1).bind fun ds M2 => if (d :: ds).length = n then φ (d :: ds) M2 else .stuck
      | none => .stuck)
    | none => .stuck
theorem lookup_none_of {f : Str} : ∀ {fs : List (Str × V)}, f ∉ fs.map (·.1) → fs.lookup f = none
  | [], _ => rfl
  | (g, v) :: r, h => by
    rw [List.map_cons, List.mem_cons, not_or] at h
    rw [List.lookup_cons, show (f == g) = false from by simpa using h.1]
    exact lookup_none_of h.2
theorem pm_meth {alts : Alts} {own : OwnM} {m : ME} {ms : MDs} {lev : Nat} (hr : ∀ c p, own c = some p → Room lev X.A) (tk : Takes X W) (ho : PE X o (tE X.K W m)) (ha : PA X es (tDs X.K W ms)) (hsup : notSuper o = true) (hn : es.all noStar = true) (hl : es.length < 30) (hline : (apos.endLine == pos.line) = true)
    (hms : es = [] → ms = mNil) (hb : ∀ T f, alts.lookup T = some f → MethB X name T f) (hown : OwnOk X lev name own) : PE X (.Call (.Attribute o name apos) es [] pos) (tE X.K W (mMeth alts own name m ms)) := by
  have hbase := base_of hsup name X.env (eval o X.env)
  refine ⟨fun pins s σ H Q I h => ?_⟩
  rw [eval_meth hbase hn hl hline]
  have hd := tD_then (m := mD m) (k := fun d env M1 => match tyD M1 d with
    | some T => (match alts.lookup T with
      | some f => (ms env M1).bind fun ds M2 => f d ds M2
      | none => .stuck)
    | none => match insOf M1 d with
      | some (c, ns, _) => (match own c with
        | some (n, φ) => if name ∈ ns then .stuck else (ms env M1).bind fun ds M2 => if (d :: ds).length = n then φ (d :: ds) M2 else .stuck
        | none => .stuck)
      | none => .stuck) (r := fun x H1 => ∃ d M1 F1 io1 env, HA X.K F1 io1 H1 M1 ∧ ER X.K F1 io1 σ env ∧ Rel X.K F1 io1 d x ∧ PostE X.K W F1 io1 H1 σ Q (match tyD M1 d with
    | some T => (match alts.lookup T with
      | some f => (ms env M1).bind fun ds M2 => f d ds M2
      | none => .stuck)
    | none => match insOf M1 d with
      | some (c, ns, _) => (match own c with
        | some (n, φ) => if name ∈ ns then .stuck else (ms env M1).bind fun ds M2 => if (d :: ds).length = n then φ (d :: ds) M2 else .stuck
        | none => .stuck)
      | none => .stuck)) h fun d M1 F1 io1 H1 x env a b c p => ⟨d, M1, F1, io1, env, a, b, c, p⟩
  refine wpAny_bind (thn ((pe_d ho).run pins s σ H _ I hd) fun ov s1 hq => ?_)
  obtain ⟨x, H1, I1, rx, d, M1, F1, io1, env, ha1, er1, rd, p⟩ := hq
  refine wpAny_bind (wpAny_standAt (wpAny_bind (wpAny_holding ?_)))
  -- the arguments, then k
  have args : ∀ {f : Value} {first : List Value} {k : List D → Mem → R RV}, ((∀ h : Heap, X.K.In h → ∃ k', (k' = Keeper.frame ∨ k' = Keeper.machine ∨ k' = Keeper.boundFrame) ∧ PySem.W.Looks (model X.prog X.w) h (keeperOf f) k') ∨ ∃ id, f = .builtin id) →
      PostE X.K W F1 io1 H1 σ Q ((ms env M1).bind k) →
      (∀ us s2 vs H2 ds M2 F2 io2, Inv X pins σ H2 s2 → Vals vs us → HA X.K F2 io2 H2 M2 → Ex F1 io1 H1 F2 io2 H2 → RelL X.K F2 io2 ds vs → PostE X.K W F2 io2 H2 σ Q (k ds M2) → wpAny (model X.prog X.w) X.A (call f (first ++ us)) (EP X pins σ Q) X.xe s2) →
      wpAny (model X.prog X.w) X.A (callWith pos f first (backTo pos (starEach es X.env)) (backToKw pos (keywordEach [] X.env))) (EP X pins σ Q) X.xe s1 := by
    intro f first k hkeep p2 hq
    have hA : tDs X.K W ms σ H1 fun vs H2 => ∃ ds M2 F2 io2, HA X.K F2 io2 H2 M2 ∧ Ex F1 io1 H1 F2 io2 H2 ∧ RelL X.K F2 io2 ds vs ∧ PostE X.K W F2 io2 H2 σ Q (k ds M2) := by
      refine ⟨F1, io1, env, M1, ha1, er1, ?_⟩
      cases q : ms env M1 with
      | stuck => rw [q] at p2; exact p2
      | exc c ns ds M' => rw [q] at p2; exact p2
      | ok ds M2 =>
        rw [q] at p2
        intro F2 io2 H2 vs a b c
        exact ⟨ds, M2, F2, io2, a, b, c, PostE.from_ b p2⟩
    have fin : wpAny (model X.prog X.w) X.A (evalArgs f true (backTo pos (starEach es X.env)) []) (fun a s2 => X.K.In s2.heap ∧ wpAny (model X.prog X.w) X.A (call f (first ++ a.pos) a.kw) (EP X pins σ Q) X.xe s2) X.xe s1 := by
      cases es with
      | nil =>
        rw [hms rfl] at hA
        obtain ⟨F, io, env', M, a0, e0, p0⟩ := hA
        obtain ⟨ds, M2, F2, io2, g1, g2, g3, g4⟩ := p0 F io H1 [] a0 .refl rfl
        refine PySem.evalArgs_none ⟨I1.kIn, ?_⟩
        exact hq [] s1 [] H1 ds M2 F2 io2 I1 .nil g1 g2 g3 g4
      | cons e es =>
        rw [List.all_cons, Bool.and_eq_true] at hn
        have hA' := ha.run pos pins s1 σ H1 _ I1 hA
        rw [star_cons hn.1] at hA' ⊢
        exact Calls.evalArgs_plain (thn hA' fun us s2 ⟨vs, H2, I2, r2, ds, M2, F2, io2, g1, g2, g3, g4⟩ => ⟨I2.kIn, hq us s2 vs H2 ds M2 F2 io2 I2 r2 g1 g2 g3 g4⟩)
    have hany : (((backTo pos (starEach es X.env)).any (·.1) || ([] : List (Option Str × Sem Value)).any (·.1.isNone))) = false := by rw [star_any hn X.env pos]; rfl
    rcases hkeep with hk | ⟨id, rfl⟩
    · exact PySem.W.callWith_of (P := fun h => X.K.In h) hany hk fin
    · exact Calls.callWith_builtin (star_any hn X.env pos) (thn fin fun a s2 hh => hh.2)
  split at p
  · rename_i T hT
    split at p
    · rename_i f hf
      obtain ⟨id, pa, slot, hty, hm⟩ := (hb T f hf).ex
      obtain ⟨t1, t2⟩ := tyV_is I1 rx (tyD_rel ha1 rd hT)
      refine getMethod_builtin t1 pa slot hty t2 ?_
      refine args (first := [ov]) (.inr ⟨id, rfl⟩) p fun us s2 vs H2 ds M2 F2 io2 I2 r2 g1 g2 g3 g4 => ?_
      exact hm pins s2 σ H2 x vs ov us Q I2 rx r2 ⟨F2, io2, M2, d, ds, W, σ, g1, Rel.mono g2.sub g2.ids _ _ rd, g3, g4⟩
    · exact p.elim
  · split at p
    · rename_i c ns ds0 hi
      split at p
      · rename_i n φ hc
        split at p
        · exact p.elim
        · rename_i hns
          obtain ⟨g, cl, me, fm⟩ := hown.ok c n φ hc
          obtain ⟨l, dx, fs, rfl, hH, rfl, _⟩ := ha1.ins rd hi
          obtain rfl : ov = Value.ref l := rx
          refine getmeth_ok I1 hH cl me (lookup_none_of hns) ?_
          refine args (first := [.ref l]) (k := fun ds M2 => if (d :: ds).length = n then φ (d :: ds) M2 else .stuck) (.inl (PySem.W.keeps_K me.kp)) p fun us s2 vs H2 ds M2 F2 io2 I2 r2 g1 g2 g3 g4 => ?_
          split at g4
          · rename_i hlen
            exact run_fm fm (hr _ _ hc) tk I2 (.cons (show RelV (V.ref l) (Value.ref l) from rfl) r2) (spF_of (ds := d :: ds) g1 ⟨V.ref l, vs, rfl, Rel.mono g2.sub g2.ids _ _ rd, g3⟩ hlen g4)
          · exact g4.elim
      · exact p.elim
    · exact p.elim
end
end Pc
set_option Elab.async false
set_option linter.all false
set_option maxRecDepth 100000
set_option maxHeartbeats 1000000
set_option autoImplicit false
/-! Pc9: calls of defs, of built-ins, of classes; what a call leaves -/
namespace Pc
open PySem PySem.Spec PyProof.Rows L2

/-! ### closed below n -/
mutual
def clD (n : Nat) : D → Bool
  | .ref i => decide (i < n)
  | .tup xs => clL n xs
  | .ctup xs => clL n xs
  | .lst xs => clL n xs
  | .obj _ _ ds => clL n ds
  | .exo _ _ ds => clL n ds
  | .cau _ _ _ _ ds => clL n ds
  | .dic _ ds => clL n ds
  | .dit _ ds => clL n ds
  | _ => true
def clL (n : Nat) : List D → Bool
  | [] => true
  | d :: ds => clD n d && clL n ds
end
def clO (n : Nat) : MO → Bool
  | .lst xs => clL n xs
  | .dk _ ds => clL n ds
  | .dt _ ds => clL n ds
  | .ins _ _ ds => clL n ds
section
variable {K : PySem.W.Frag} {F H : Hp} {io : List Addr} {M : Mem} {n : Nat}
mutual
theorem Rel.drop : ∀ (d : D) (v : V), clD n d = true → Rel K F io d v → Rel K F (io.take n) d v
  | .non, _, _, h => h
  | .bl _, _, _, h => h
  | .int _, _, _, h => h
  | .str _, _, _, h => h
  | .tup xs, _, c, h => by
    obtain ⟨a, vs, e, q, r⟩ := (show ∃ a vs, _ = V.ref a ∧ F a = some (.tup vs) ∧ RelL K F io xs vs from h)
    exact ⟨a, vs, e, q, RelL.dropI xs vs c r⟩
  | .ctup xs, _, c, h => by
    obtain ⟨a, vs, e, q, r⟩ := (show ∃ a vs, _ = V.ref a ∧ SqT K F a vs ∧ RelL K F io xs vs from h)
    exact ⟨a, vs, e, q, RelL.dropI xs vs c r⟩
  | .lst xs, _, c, h => by
    obtain ⟨a, vs, e, q, r⟩ := (show ∃ a vs, _ = V.ref a ∧ F a = some (.lst vs) ∧ RelL K F io xs vs from h)
    exact ⟨a, vs, e, q, RelL.dropI xs vs c r⟩
  | .ref i, _, c, h => by
    obtain ⟨a, e, q⟩ := (show ∃ a, _ = V.ref a ∧ io[i]? = some a from h)
    refine ⟨a, e, ?_⟩
    rw [List.getElem?_take, if_pos (of_decide_eq_true c)]
    exact q
  | .obj c ns ds, _, cl, h => by
    obtain ⟨a, dx, fvs, e, q, m, r⟩ := (show ∃ a dx fvs, _ = V.ref a ∧ F a = some (.ins (He.ga K c) dx fvs) ∧ fvs.map (·.1) = ns ∧ RelL K F io ds (fvs.map (·.2)) from h)
    exact ⟨a, dx, fvs, e, q, m, RelL.dropI ds _ cl r⟩
  | .dic ks ds, _, c, h => by
    obtain ⟨a, kvs, e, q, m, r⟩ := (show ∃ a kvs, _ = V.ref a ∧ F a = some (.dK kvs) ∧ kvs.map (·.1) = ks ∧ RelL K F io ds (kvs.map (·.2)) from h)
    exact ⟨a, kvs, e, q, m, RelL.dropI ds _ c r⟩
  | .dit ks ds, _, c, h => by
    obtain ⟨a, kvs, e, q, m, r⟩ := (show ∃ a kvs, _ = V.ref a ∧ F a = some (.dT kvs) ∧ kvs.map (·.1) = ks ∧ RelL K F io ds (kvs.map (·.2)) from h)
    exact ⟨a, kvs, e, q, m, RelL.dropI ds _ c r⟩
  | .scr ns, _, _, h => h
  | .fn _, _, _, h => h
  | .exo c ns ds, _, cl, h => by
    obtain ⟨a, od, fvs, e, q, x, m, r⟩ := (show ∃ a od fvs, _ = V.ref a ∧ F a = some (exo a (He.ga K c) od) ∧ ExD F od fvs ∧ fvs.map (·.1) = ns ∧ RelL K F io ds (fvs.map (·.2)) from h)
    exact ⟨a, od, fvs, e, q, x, m, RelL.dropI ds _ cl r⟩
  | .cau a od c ns ds, _, cl, h => by
    obtain ⟨e, fvs, x, m, r⟩ := (show _ = V.ref a ∧ ∃ fvs, XcD F od fvs ∧ fvs.map (·.1) = ns ∧ RelL K F io ds (fvs.map (·.2)) from h)
    exact ⟨e, fvs, x, m, RelL.dropI ds _ cl r⟩
theorem RelL.dropI : ∀ (ds : List D) (vs : List V), clL n ds = true → RelL K F io ds vs → RelL K F (io.take n) ds vs
  | [], _, _, h => h
  | d :: ds, _, c, h => by
    obtain ⟨v, r, e, h1, h2⟩ := (show ∃ v r, _ = v :: r ∧ Rel K F io d v ∧ RelL K F io ds r from h)
    rw [clL, Bool.and_eq_true] at c
    exact ⟨v, r, e, Rel.drop d v c.1 h1, RelL.dropI ds r c.2 h2⟩
end
theorem MR.drop {a : Addr} {o : MO} (c : clO n o = true) (h : MR K F io H a o) : MR K F (io.take n) H a o := by
  cases o with
  | lst xs => obtain ⟨vs, q, r⟩ := h; exact ⟨vs, q, r.dropI _ _ c⟩
  | dk ks ds => obtain ⟨vs, q, m, r⟩ := h; exact ⟨vs, q, m, r.dropI _ _ c⟩
  | dt ks ds => obtain ⟨vs, q, m, r⟩ := h; exact ⟨vs, q, m, r.dropI _ _ c⟩
  | ins c' ns ds => obtain ⟨dx, vs, q, m, r⟩ := h; exact ⟨dx, vs, q, m, r.dropI _ _ c⟩
theorem HA.drop (h : HA K F io H M) (c : (M.take n).all (clO n) = true) : HA K F (io.take n) H (M.take n) := by
  refine ⟨h.sub, by rw [List.length_take, List.length_take, h.len], h.nd.sublist (List.take_sublist _ _), fun i o e => ?_⟩
  have hi : i < n := by
    have := (List.getElem?_eq_some_iff.mp e).1
    rw [List.length_take] at this
    omega
  have e0 := e
  rw [List.getElem?_take, if_pos hi] at e
  obtain ⟨a, e1, e2, e3⟩ := h.at_ i o e
  exact ⟨a, by rw [List.getElem?_take, if_pos hi]; exact e1, e2, e3.drop (List.all_eq_true.mp c o (List.mem_of_getElem? e0))⟩
theorem Ex.drop {F' H' : Hp} {io' : List Addr} (x : Ex F io H F' io' H') (hn : io.length ≤ n) : Ex F io H F' (io'.take n) H' := by
  refine ⟨x.sub, fun i a e => ?_, x.frame, x.newF, fun b hb => x.newI b (List.mem_of_mem_take hb), x.there⟩
  have hi : i < n := Nat.lt_of_lt_of_le (List.getElem?_eq_some_iff.mp e).1 hn
  rw [List.getElem?_take, if_pos hi]
  exact x.ids i a e
theorem not_take {a : Addr} {i : Nat} (nd : io.Nodup) (e : io[i]? = some a) (hn : n ≤ i) : a ∉ io.take n := fun hm => by
  obtain ⟨j, hj, ej⟩ := List.mem_iff_getElem.mp hm
  rw [List.length_take] at hj
  rw [List.getElem_take] at ej
  obtain ⟨h1, e1⟩ := List.getElem?_eq_some_iff.mp e
  have := (List.getElem_inj nd).mp (ej.trans e1.symm)
  omega
end
/-- what a call leaves: the objects behind n are let go where nothing names them -/
def gcR (n : Nat) : R RV → R RV
  | .ok rv M => if (M.take n).all (clO n) then (match rv with
    | .val d => if clD n d then .ok (.val d) (M.take n) else (match d with
      | .ref i => (match M[i]? with
        | some o => if n ≤ i ∧ clO n o = true then .ok (.own o) (M.take n) else .ok rv M
        | none => .ok rv M)
      | _ => .ok rv M)
    | .own o => if clO n o then .ok (.own o) (M.take n) else .ok rv M) else .ok rv M
  | .exc c ns ds M => if (M.take n).all (clO n) && clL n ds then .exc c ns ds (M.take n) else .exc c ns ds M
  | .stuck => .stuck
section
variable {K : PySem.W.Frag} {W : WX} {F H : Hp} {io : List Addr} {σ : St} {Q : VK} {n : Nat}
theorem post_gc {r : R RV} (hn : io.length ≤ n) (h : PostE K W F io H σ Q (gcR n r)) : PostE K W F io H σ Q r := by
  cases r with
  | stuck => exact h
  | exc c ns ds M =>
    unfold gcR at h
    dsimp only at h
    split at h
    · rename_i hc
      rw [Bool.and_eq_true] at hc
      intro F' io' H' dd a b q
      refine h F' _ H' dd (a.drop hc.1) (b.drop hn) ?_
      cases dd with
      | none => exact q
      | some dd =>
        obtain ⟨fvs, h1, h2, h3, h4⟩ := q
        exact ⟨fvs, h1, h2, h3.dropI _ _ hc.2, h4⟩
    · exact h
  | ok rv M =>
    unfold gcR at h
    dsimp only at h
    split at h
    · rename_i hc
      cases rv with
      | val d =>
        dsimp only at h
        split at h
        · rename_i hd
          intro F' io' H' v a b c
          exact h F' _ H' v (a.drop hc) (b.drop hn) (Rel.drop d v hd c)
        · cases d with
          | ref i =>
            dsimp only at h
            split at h
            · rename_i o ho
              split at h
              · rename_i hio
                intro F' io' H' v a b c
                obtain ⟨l, rfl, hl⟩ := (show ∃ l, v = V.ref l ∧ io'[i]? = some l from c)
                obtain ⟨l', e1, e2, e3⟩ := a.at_ i o ho
                rw [hl] at e1
                cases e1
                refine h F' _ H' _ (a.drop hc) (b.drop hn) ⟨l, rfl, ?_, e2, not_take a.nd hl hio.1, e3.drop hio.2⟩
                refine (b.newI l (List.mem_of_getElem? hl)).resolve_left fun z => ?_
                obtain ⟨j, hj, ej⟩ := List.mem_iff_getElem.mp z
                have := b.ids j l (by rw [List.getElem?_eq_getElem hj, ej])
                obtain ⟨h1, g1⟩ := List.getElem?_eq_some_iff.mp this
                obtain ⟨h2, g2⟩ := List.getElem?_eq_some_iff.mp hl
                have := (List.getElem_inj a.nd).mp (g1.trans g2.symm)
                omega
              · exact h
            · exact h
          | _ => exact h
      | own o =>
        dsimp only at h
        split at h
        · rename_i hd
          intro F' io' H' v a b ⟨l, e, n1, n2, n3, r⟩
          exact h F' _ H' v (a.drop hc) (b.drop hn) ⟨l, e, n1, n2, fun z => n3 (List.mem_of_mem_take z), r.drop hd⟩
        · exact h
    · exact h
/-- a tracked, unnamed thing gets a number -/
theorem HA.alloc {M : Mem} {a : Addr} {o : MO} (h : HA K F io H M) (hF : F a = none) (hi : a ∉ io) (r : MR K F io H a o) : HA K F (io ++ [a]) H (M ++ [o]) := by
  have ids : ∀ (i : Nat) (b : Addr), io[i]? = some b → (io ++ [a])[i]? = some b := fun i b e => by
    rw [List.getElem?_append_left (List.getElem?_eq_some_iff.mp e).1]; exact e
  refine ⟨h.sub, by rw [List.length_append, List.length_append, h.len]; rfl, ?_, fun i w e => ?_⟩
  · exact List.nodup_append.mpr ⟨h.nd, by simp, fun b hb c hc => by rw [List.mem_singleton.mp hc]; exact fun z => hi (z ▸ hb)⟩
  · by_cases hlt : i < M.length
    · rw [List.getElem?_append_left hlt] at e
      obtain ⟨c, e1, e2, e3⟩ := h.at_ i w e
      exact ⟨c, ids i c e1, e2, e3.mono (Same.refl _) ids rfl⟩
    · have hl := (List.getElem?_eq_some_iff.mp e).1
      rw [List.length_append] at hl
      have : i = M.length := by simp at hl; omega
      subst this
      rw [List.getElem?_append_right (Nat.le_refl _), Nat.sub_self] at e
      cases e
      refine ⟨a, by rw [← h.len, List.getElem?_append_right (Nat.le_refl _), Nat.sub_self]; rfl, hF, r.mono (Same.refl _) ids rfl⟩
theorem Ex.alloc {F0 H0 : Hp} {io0 : List Addr} {a : Addr} (x : Ex F0 io0 H0 F io H) (h0 : H0 a = none) : Ex F0 io0 H0 F (io ++ [a]) H :=
  ⟨x.sub, fun i b e => by
    have := x.ids i b e
    rw [List.getElem?_append_left (List.getElem?_eq_some_iff.mp this).1]; exact this, x.frame, x.newF, fun b hb => by
    rcases List.mem_append.mp hb with hb | hb
    · exact x.newI b hb
    · rw [List.mem_singleton.mp hb]; exact .inr h0, x.there⟩
end

/-! ### f(..) -/
def mCall (n : Nat) (φ : List D → Mem → R RV) (ms : MDs) : ME := fun env M => (ms env M).bind fun ds M1 => if ds.length = n then φ ds M1 else .stuck
def mBlt (f : List D → Mem → R RV) (ms : MDs) : ME := fun env M => (ms env M).bind f
def made (i : Nat) (M : Mem) : R RV := match M[i]? with
  | some o => if (M.take i).all (clO i) && clO i o then .ok (.own o) (M.take i) else .stuck
  | none => .stuck
def mMake (isMut : Bool) (c : Str) (n : Nat) (φ : List D → Mem → R RV) (ms : MDs) : ME := fun env M => (ms env M).bind fun ds M1 =>
  if ds.length + 1 = n then (φ (.ref M1.length :: ds) (M1 ++ [.ins c [] []])).bind fun rv M2 => match rv with
    | .val .non => if isMut then .ok (.val (.ref M1.length)) M2 else made M1.length M2
    | _ => .stuck
  else .stuck
section
variable {X : Cx} {W : WX} {e : Expr} {es : List Expr} {x : Str} {p pos : Pos}
/-- a global thing is called: its arguments, then the call by values -/
theorem pm_global {u : Value} {ms : MDs} {k : List D → Mem → R RV} (hg : Gl X x) (hm : X.mg x = some u ∨ (X.mg x = none ∧ bootBuiltins x = some u ∧ x ≠ "__name__")) (hd : (x == ("__debug__" : Str)) = false)
    (hk : (∀ h : Heap, X.K.In h → ∃ k', (k' = Keeper.frame ∨ k' = Keeper.machine ∨ k' = Keeper.boundFrame) ∧ PySem.W.Looks (model X.prog X.w) h (keeperOf u) k') ∨ (∃ id, u = .builtin id) ∨ ∃ T, u = .type T)
    (hn : es.all noStar = true) (hms : es = [] → ms = mNil) (ha : PA X es (tDs X.K W ms))
    (hq : ∀ pins s σ H Q us vs ds M F io, Inv X pins σ H s → Vals vs us → HA X.K F io H M → RelL X.K F io ds vs → PostE X.K W F io H σ Q (k ds M) → wpAny (model X.prog X.w) X.A (call u us) (EP X pins σ Q) X.xe s) :
    PE X (.Call (.Name x p) es [] pos) (tE X.K W (fun env M => (ms env M).bind k)) := by
  refine ⟨fun pins s σ H Q I h => ?_⟩
  have hA : tDs X.K W ms σ H fun vs H2 => ∃ ds M2 F2 io2, HA X.K F2 io2 H2 M2 ∧ RelL X.K F2 io2 ds vs ∧ PostE X.K W F2 io2 H2 σ Q (k ds M2) :=
    tDs_then h fun ds M1 F1 io1 H1 xs env a b c p => ⟨ds, M1, F1, io1, a, c, p⟩
  refine wpAny_Call_Name_kw ?_
  have ld : ∀ {R : Value → Shared → Prop}, R u s → wpAny (model X.prog X.w) X.A (eval (.Name x p) X.env) R X.xe s := fun {R} hr => by
    rcases hm with hm | ⟨h1, h2, h3⟩
    · exact ld_glob I hg hm hr hd
    · exact ld_blt I hg h1 h2 hr h3 hd
  refine ld ?_
  have fin : wpAny (model X.prog X.w) X.A (evalArgs u true (backTo pos (starEach es X.env)) []) (fun a s2 => X.K.In s2.heap ∧ wpAny (model X.prog X.w) X.A (call u ([] ++ a.pos) a.kw) (EP X pins σ Q) X.xe s2) X.xe s := by
    cases es with
    | nil =>
      rw [hms rfl] at hA
      obtain ⟨F, io, env', M, a0, e0, p0⟩ := hA
      obtain ⟨ds, M2, F2, io2, g1, g3, g4⟩ := p0 F io H [] a0 .refl rfl
      exact PySem.evalArgs_none ⟨I.kIn, hq pins s σ H Q [] [] ds M2 F2 io2 I .nil g1 g3 g4⟩
    | cons e es =>
      rw [List.all_cons, Bool.and_eq_true] at hn
      have hA' := ha.run pos pins s σ H _ I hA
      rw [star_cons hn.1] at hA' ⊢
      exact Calls.evalArgs_plain (thn hA' fun us s2 ⟨vs, H2, I2, r2, ds, M2, F2, io2, g1, g3, g4⟩ => ⟨I2.kIn, hq pins s2 σ H2 Q us vs ds M2 F2 io2 I2 r2 g1 g3 g4⟩)
  have hany : (((backTo pos (starEach es X.env)).any (·.1) || ([] : List (Option Str × Sem Value)).any (·.1.isNone))) = false := by rw [star_any hn X.env pos]; rfl
  show wpAny (model X.prog X.w) X.A (callWith pos u [] (backTo pos (starEach es X.env)) []) (EP X pins σ Q) X.xe s
  rcases hk with hk | ⟨id, rfl⟩ | ⟨T, rfl⟩
  · exact PySem.W.callWith_of (P := fun h => X.K.In h) hany hk fin
  · exact Calls.callWith_builtin (star_any hn X.env pos) (thn fin fun a s2 hh => hh.2)
  · refine PySem.W.callWith_of (P := fun _ => True) hany (fun h _ => ⟨.machine, .inr (.inl rfl), ?_⟩) (thn fin fun a s2 hh => ⟨trivial, hh.2⟩)
    exact .now
theorem pm_call {lev n : Nat} {f : Addr} {φ : List D → Mem → R RV} {ms : MDs} (F : FnM X lev f n φ) (hr : Room lev X.A) (tk : Takes X W) (hg : Gl X x) (hm : X.mg x = some (.ref f)) (hk : PySem.W.keepIn X.K (.ref f) = true) (hd : (x == ("__debug__" : Str)) = false)
    (hn : es.all noStar = true) (hms : es = [] → ms = mNil) (ha : PA X es (tDs X.K W ms)) : PE X (.Call (.Name x p) es [] pos) (tE X.K W (mCall n φ ms)) :=
  pm_global hg (.inl hm) hd (.inl (PySem.W.keeps_K hk)) hn hms ha fun pins s σ H Q us vs ds M F' io I r a rl p => by
    split at p
    · rename_i hl
      exact run_fm F hr tk I r (spF_of a rl hl p)
    · exact p.elim
theorem pm_blt {f : List D → Mem → R RV} {ms : MDs} (B : Blt X x f) (hg : Gl X x) (hm : X.mg x = none)
    (hn : es.all noStar = true) (hms : es = [] → ms = mNil) (ha : PA X es (tDs X.K W ms)) : PE X (.Call (.Name x p) es [] pos) (tE X.K W (mBlt f ms)) := by
  obtain ⟨u, hb, hu, hc⟩ := B.ex
  exact pm_global hg (.inr ⟨hm, hb, B.nn⟩) B.nd (.inr hu) hn hms ha fun pins s σ H Q us vs ds M F' io I r a rl p => hc pins s σ H vs us Q I r ⟨F', io, M, ds, W, σ, a, rl, p⟩
theorem guards_make {A : Around} {C : Addr} {us : List Value} {kw : List (Str × Value)} : (A.under (.builtin "type.__call__" ⟨.ref C :: us, kw⟩)).guards = A.guards := by
  first | rfl | simp [Around.under, Code.guards, Code.isGuard, guardIds, pushGuards]
/-- a new instance -/
theorem run_mk {c : Str} {lev n : Nat} {fI : Addr} {φ : List D → Mem → R RV} {b : Bool} {pins : List (Addr × Obj)} {σ : St} {H : Hp} {s : Shared} {Q : VK} {us : List Value} {vs : List V} {F : Hp} {io : List Addr} {ds : List D} {M : Mem}
    (Mk_ : Mk X.K (He.ga X.K c) fI) (Fm : FnM X lev fI n φ) (hr : Room (lev + 1) X.A) (tk : Takes X W) (I : Inv X pins σ H s) (r : Vals vs us) (ha : HA X.K F io H M) (rl : RelL X.K F io ds vs)
    (p : PostE X.K W F io H σ Q (if ds.length + 1 = n then (φ (.ref M.length :: ds) (M ++ [.ins c [] []])).bind fun rv M2 => match rv with
      | .val .non => if b then .ok (.val (.ref M.length)) M2 else made M.length M2
      | _ => .stuck
    else .stuck)) : wpAny (model X.prog X.w) X.A (call (.ref (He.ga X.K c)) us) (EP X pins σ Q) X.xe s := by
  split at p
  · rename_i hl
    have gd := Fm.gd
    obtain ⟨fd, ps, F0, bd⟩ := Fm.ex
    have nx : H (s.heap.objs.size + 1) = none := I.hok.fresh (Nat.le_succ _)
    have ndx : H s.heap.objs.size = none := I.hok.fresh (Nat.le_refl _)
    have I2 := Inv.made (C := He.ga X.K c) I
    generalize hx : s.heap.objs.size + 1 = x at *
    generalize hdx : s.heap.objs.size = dx at *
    have nex : dx ≠ x := by omega
    have r2 : Vals (V.ref x :: vs) (Value.ref x :: us) := .cons rfl r
    -- the heap with the new instance
    have old : ∀ b o, H b = some o → (upd (upd H dx (.own x)) x (.ins (He.ga X.K c) dx [])) b = some o := fun b o e => by
      rw [upd_ne (ne_of_none e nx), upd_ne (ne_of_none e ndx)]; exact e
    have ha1 : HA X.K F io (upd (upd H dx (.own x)) x (.ins (He.ga X.K c) dx [])) M := (ha.new ndx).new (by rw [upd_ne (Ne.symm nex)]; exact nx)
    have x1 : Ex F io H F io (upd (upd H dx (.own x)) x (.ins (He.ga X.K c) dx [])) := (Ex.new ha ndx).trans (Ex.new (ha.new ndx) (by rw [upd_ne (Ne.symm nex)]; exact nx))
    have ni : x ∉ io := ha.notin nx
    have ha2 : HA X.K F (io ++ [x]) (upd (upd H dx (.own x)) x (.ins (He.ga X.K c) dx [])) (M ++ [.ins c [] []]) :=
      ha1.alloc (ha.fnone nx) ni ⟨dx, [], upd_same, rfl, rfl⟩
    have x2 := Ex.alloc x1 nx
    have rx : Rel X.K F (io ++ [x]) (.ref M.length) (.ref x) := ⟨x, rfl, by rw [← ha.len, List.getElem?_append_right (Nat.le_refl _), Nat.sub_self]; rfl⟩
    have rl2 : RelL X.K F (io ++ [x]) (.ref M.length :: ds) (V.ref x :: vs) := ⟨V.ref x, vs, rfl, rx, RelL.mono (Same.refl _) x2.ids _ _ rl⟩
    have p2 := PostE.from_ x2 p
    have sp : spF X.K φ n (V.ref x :: vs) (upd (upd H dx (.own x)) x (.ins (He.ga X.K c) dx [])) (fun v H2 => v = .non ∧ Q (.ref x) H2) (WE W σ) := by
      refine spF_of ha2 rl2 (by rw [List.length_cons]; exact hl) ?_
      cases q : φ (.ref M.length :: ds) (M ++ [.ins c [] []]) with
      | stuck => rw [q] at p2; exact p2
      | exc c ns ds M' => rw [q] at p2; exact p2
      | ok rv M2 =>
        rw [q] at p p2
        intro F3 io3 H3 v a3 b3 c3
        dsimp only [R.bind] at p p2
        split at p2
        · have p3 := PostE.from_ b3 p2
          have hx3 : io3[M.length]? = some x := b3.ids _ _ (by rw [← ha.len, List.getElem?_append_right (Nat.le_refl _), Nat.sub_self]; rfl)
          refine ⟨c3, ?_⟩
          cases b with
          | true =>
            exact post_val p3 a3 ⟨x, rfl, hx3⟩
          | false =>
            have pz : PostE X.K W F io H σ Q (made M.length M2) := p
            unfold made at pz
            cases ho : M2[M.length]? with
            | none => rw [ho] at pz; exact pz.elim
            | some o =>
              rw [ho] at pz
              dsimp only at pz
              split at pz
              · rename_i hc
                rw [Bool.and_eq_true] at hc
                obtain ⟨l', e1, e2, e3⟩ := a3.at_ _ o ho
                rw [hx3] at e1
                cases e1
                exact pz F3 _ H3 _ (a3.drop hc.1) ((x2.trans b3).drop (Nat.le_of_eq ha.len)) ⟨x, rfl, nx, e2, not_take a3.nd hx3 (Nat.le_refl _), e3.drop hc.2⟩
              · exact pz.elim
        · exact p2.elim
    have hl2 : (Value.ref x :: us).length = ps.length := by rw [← r2.length]; exact F0.len _ _ _ _ sp
    have bb := bd _ (Value.ref x :: us) I2.kIn (by rw [List.append_nil]; exact hl2)
    rw [List.append_nil] at bb
    subst hdx
    subst hx
    refine wpAny_call (make_map (f := fI) I.kIn Mk_.makes Mk_.init (beq_iff_eq.mp Mk_.fn) (codeAny_mono (F0.run _ X.stack _ _ ⟨Value.ref _ :: us, []⟩ (Value.ref _ :: us) _ _ (WE W σ) (guards_make.trans gd) (hr.make _ us [])
      (I2.env0.make _ us []) bb r2 sp) fun r s' hq' => ?_))
    cases r with
    | error e => exact passAt tk σ pins _ _ e s' I2 hq'
    | ok fl =>
      cases fl with
      | ret u =>
        obtain ⟨v, H', I3, rv, ev, q3⟩ := I2.after hq'
        subst ev
        exact ⟨rv, ⟨V.ref (s.heap.objs.size + 1), H', I3, rfl, q3⟩⟩
      | next => exact False.elim hq'
      | brk => exact False.elim hq'
      | cont => exact False.elim hq'
  · exact p.elim
theorem pm_make {c : Str} {lev n : Nat} {fI : Addr} {φ : List D → Mem → R RV} {b : Bool} {ms : MDs} (Mk_ : Mk X.K (He.ga X.K c) fI) (Fm : FnM X lev fI n φ) (hr : Room (lev + 1) X.A) (tk : Takes X W) (hg : Gl X c) (hm : X.mg c = some (.ref (He.ga X.K c)))
    (hd : (c == ("__debug__" : Str)) = false) (hn : es.all noStar = true) (hms : es = [] → ms = mNil) (ha : PA X es (tDs X.K W ms)) : PE X (.Call (.Name c p) es [] pos) (tE X.K W (mMake b c n φ ms)) :=
  pm_global hg (.inl hm) hd (.inl (PySem.W.keeps_K Mk_.kp)) hn hms ha fun pins s σ H Q us vs ds M F' io I r a rl p => run_mk Mk_ Fm hr tk I r a rl p
end
end Pc
set_option Elab.async false
set_option linter.all false
set_option maxRecDepth 100000
set_option maxHeartbeats 2000000
set_option autoImplicit false
/-! PcM1: sum of a list of lists -/
namespace Pc
open PySem PySem.Spec PyProof.Rows L2
section
variable {prog : Program} {w : World} {A : Around} {E : Value → Shared → Prop} {s : Shared}
theorem cat_raw {l b : Addr} {vs ws : List Value} {Q : Value → Shared → Prop} (hl : s.heap.IsList l vs.toArray) (hb : s.heap.IsList b ws.toArray)
    (h : Q (.ref s.heap.objs.size) { s with heap := s.heap.push { cls := .type "list", data := .seq (vs ++ ws).toArray } })
    (hsz : vs.length + ws.length ≤ sizeLine) : wpAny (model prog w) A (binaryOp .Add (.ref l) (.ref b)) Q E s := by
  obtain ⟨⟨cls, dd, data, sl⟩, ho, hc, n, hd⟩ := id hl
  obtain ⟨⟨cls2, dd2, data2, sl2⟩, ho2, hc2, n2, hd2⟩ := id hb
  simp only at hc hd hc2 hd2
  subst hc hd hc2 hd2
  have e : vs.toArray ++ ws.toArray = (vs ++ ws).toArray := by simp
  refine PySem.concat_meets ⟨_, ho, rfl⟩ ⟨_, ho2, rfl⟩ PySem.noFill_list_add PySem.seq_list_add PySem.F.slot_list_add PySem.F.entry_list_add (PySem.F.args_list_add_2 _ _) (PyProof.Rows.list_addW l b vs.toArray ws.toArray n n2 dd dd2 sl sl2 (by simpa using hsz)) ⟨ho, ho2, ?_⟩
  rw [e]
  exact h
/-- the walk of sum over a list of lists -/
theorem sum_rows {Rs : Result → Shared → Prop} {I l S : Addr} (rows : List (Addr × List Value)) (hSI : S ≠ I) (hSl : S ≠ l) (hIl : l ≠ I) (hh : A.in1.handled = none) (hrow : ∀ r ∈ rows, r.1 ≠ S ∧ r.1 ≠ I) :
    ∀ (k i : Nat) (s : Shared) (T : Addr) (acc : List Value), i + k = rows.length → s.heap.IsListIter I l i → s.heap.IsList l (rows.map fun r => Value.ref r.1).toArray →
      (∃ c, s.heap.get? S = some { cls := .type "list", dict := none, data := .seq #[.ref T] c, slots := #[] }) → T ≠ S → T ≠ I → s.heap.IsList T acc.toArray → (i = 0 ∨ 0 < i ∧ ∃ c, s.heap.get? T = some { cls := .type "list", dict := none, data := .seq acc.toArray c, slots := #[] }) → (∀ r ∈ rows, s.heap.IsList r.1 r.2.toArray) →
      acc.length + ((rows.drop i).map fun r => r.2.length).sum ≤ sizeLine →
      (∀ h' tk T', (∀ b o, b ≠ I → b ≠ S → s.heap.get? b = some o → h'.get? b = some o) → ((rows = [] ∧ T' = T) ∨ (∃ c, h'.get? T' = some { cls := .type "list", dict := none, data := .seq (acc ++ (rows.drop i).flatMap fun r => r.2).toArray c, slots := #[] }) ∧ (T' = T ∨ s.heap.objs.size ≤ T') ∧ (i < rows.length → s.heap.objs.size ≤ T') ∧ rows ≠ []) → Rs (.ok (.ret (.ref T'))) { s with heap := h', toks := tk }) →
      codeAny (model prog w) A (.builtin "sum.loop" ⟨[.ref I, .ref S, rawInt 2, rawInt 0], []⟩) Rs s := by
  intro k
  induction k with
  | zero =>
    intro i s T acc hk hst hl hS hTS hTI hT hX hr hz hR
    obtain ⟨c, hS⟩ := hS
    have hin : i = rows.length := by omega
    subst hin
    refine codeAny_builtin PySem.F.entry_sum_loop ?_
    rw [Around.under_plainId PySem.F.plain_sum_loop _]
    show wpAny _ A.in1 (seqItems? (.ref S) >>= _) _ _ s
    refine wpAny_bind (wpAny_seqItems hS rfl ?_)
    show wpAny _ A.in1 (tryCatch (pyNext (.ref I)) _ >>= _) _ _ s
    refine wpAny_bind (wpAny_tryCatch (wpAny_pyNext_list_end hh hst hl (by simp) fun h' hk' => ?_))
    refine wpAny_pure (hR h' s.toks T (fun b o hI hS' e => hk' b o hI e) ?_)
    rw [List.drop_eq_nil_of_le (Nat.le_refl _)]
    simp only [List.flatMap_nil, List.append_nil]
    rcases hX with h0 | ⟨hp, c, e⟩
    · exact .inl ⟨List.length_eq_zero_iff.mp h0, by first | rfl | trivial⟩
    · exact .inr ⟨⟨c, hk' T _ hTI e⟩, .inl (by first | rfl | trivial), fun z => absurd z (Nat.lt_irrefl _), fun z => by rw [z] at hp; exact absurd hp (Nat.lt_irrefl _)⟩
  | succ k ih =>
    intro i s T acc hk hst hl hS hTS hTI hT hX hr hz hR
    obtain ⟨c, hS⟩ := hS
    have hlt : i < rows.length := by omega
    refine codeAny_builtin PySem.F.entry_sum_loop ?_
    rw [Around.under_plainId PySem.F.plain_sum_loop _]
    show wpAny _ A.in1 (seqItems? (.ref S) >>= _) _ _ s
    refine wpAny_bind (wpAny_seqItems hS rfl ?_)
    show wpAny _ A.in1 (tryCatch (pyNext (.ref I)) _ >>= _) _ _ s
    refine wpAny_bind (wpAny_tryCatch (wpAny_pyNext_list_item hst hl (x := .ref rows[i].1) (by simp [hlt]) fun h' hst' hk' => ?_))
    have hm : rows[i] ∈ rows := List.getElem_mem hlt
    obtain ⟨r1, r2⟩ := hrow _ hm
    have kp : ∀ b o, b ≠ I → s.heap.get? b = some o → h'.get? b = some o := fun b o hb e => (hk'.2 b hb).trans e
    have hS' := kp S _ hSI hS
    have hT' : h'.IsList T acc.toArray := hT.at fun o e => kp T o hTI e
    have hi' : h'.IsList rows[i].1 rows[i].2.toArray := (hr _ hm).at fun o e => kp _ o r2 e
    have hd : rows.drop i = rows[i] :: rows.drop (i + 1) := List.drop_eq_getElem_cons hlt
    rw [hd] at hz
    simp only [List.map_cons, List.sum_cons] at hz
    show wpAny _ A.in1 ((holding [Value.ref rows[i].1] (binaryOp .Add (.ref T) (.ref rows[i].1))).attempt >>= _) _ _ _
    refine wpAny_bind (wpAny_attempt (wpAny_holding (cat_raw (s := { s with heap := h' }) hT' hi' ?_ (by omega))))
    have eS : (h'.push { cls := .type "list", data := .seq (acc ++ rows[i].2).toArray }).get? S = some { cls := .type "list", dict := none, data := .seq #[.ref T] c, slots := #[] } := Heap.get?_push_of_some _ hS'
    show wpAny _ A.in1 (updateSeq S (fun _ => #[.ref h'.objs.size]) >>= _) _ _ _
    refine wpAny_bind ?_
    refine wpAny_updateSeq eS rfl ?_
    have hS2 := Heap.get?_update_self (Obj.mapSeq fun _ => #[Value.ref h'.objs.size]) eS rfl
    refine wpAny_bind (wpAny_letGo ?_)
    refine wpAny_bind ?_
    have ne1 : h'.objs.size ≠ S := Ne.symm (Nat.ne_of_lt (Heap.lt_size hS'))
    obtain ⟨oI, eI, _⟩ := id hst'
    have ne2 : h'.objs.size ≠ I := Ne.symm (Nat.ne_of_lt (Heap.lt_size eI))
    have up : ∀ b o, b ≠ I → b ≠ S → s.heap.get? b = some o → (((h'.push { cls := .type "list", data := .seq (acc ++ rows[i].2).toArray }).update S (Obj.mapSeq fun _ => #[Value.ref h'.objs.size])).update S (Obj.mapSeq fun _ => #[Value.ref h'.objs.size])).get? b = some o := fun b o hI hS' e =>
      (Heap.get?_update_other _ _ (Ne.symm hS')).trans ((Heap.get?_update_other _ _ (Ne.symm hS')).trans (Heap.get?_push_of_some _ (kp b o hI e)))
    have upn : ∀ b, b ≠ S → (((h'.push { cls := .type "list", data := .seq (acc ++ rows[i].2).toArray }).update S (Obj.mapSeq fun _ => #[Value.ref h'.objs.size])).update S (Obj.mapSeq fun _ => #[Value.ref h'.objs.size])).get? b = (h'.push { cls := .type "list", data := .seq (acc ++ rows[i].2).toArray }).get? b := fun b hb =>
      (Heap.get?_update_other _ _ (Ne.symm hb)).trans (Heap.get?_update_other _ _ (Ne.symm hb))
    have szle : s.heap.objs.size ≤ h'.objs.size := by rw [hk'.1]; exact Nat.le_refl _
    refine wpAny_updateSeq hS2 rfl (wpAny_pure ⟨plainId_quiet PySem.F.plain_sum_loop _, ih (i + 1) _ h'.objs.size (acc ++ rows[i].2) (by omega) ?_ ?_ ⟨_, Heap.get?_update_self _ hS2 rfl⟩ ne1 ne2 ?_ (.inr ⟨Nat.succ_pos _, _, (upn _ ne1).trans (Heap.get?_push_size _ rfl)⟩) ?_ ?_ fun h'' tk'' T'' hk'' hor => ?_⟩)
    · exact hst'.at fun o e => (upn I (Ne.symm hSI)).trans (Heap.get?_push_of_some _ e)
    · exact hl.at fun o e => up l o hIl (Ne.symm hSl) e
    · exact ⟨_, (upn _ ne1).trans (Heap.get?_push_size _ rfl), rfl, _, rfl⟩
    · exact fun r hrm => (hr r hrm).at fun o e => up r.1 o (hrow r hrm).2 (hrow r hrm).1 e
    · rw [List.length_append]; omega
    · refine hR h'' tk'' T'' (fun b o hI hS' e => hk'' b o hI hS' (up b o hI hS' e)) ?_
      rcases hor with ⟨z, _⟩ | ⟨hT'', hor, _, hne⟩
      · rw [z] at hlt; exact absurd hlt (Nat.not_lt_zero _)
      · have fin : s.heap.objs.size ≤ T'' := by
          rcases hor with rfl | z
          · exact szle
          · refine (Nat.le_trans szle (Nat.le_trans ?_ z))
            show h'.objs.size ≤ (Heap.update (Heap.update (Heap.push _ _) _ _) _ _).objs.size
            rw [Heap.size_update, Heap.size_update, Heap.size_push]
            exact Nat.le_succ _
        refine .inr ⟨?_, .inr fin, fun _ => fin, hne⟩
        rw [hd, List.flatMap_cons, ← List.append_assoc]
        exact hT''
theorem args_sum2 (a b : Value) : argsOk "sum" ⟨[a, b], []⟩ := by unfold argsOk; kernel_rfl
theorem call_sum_lists {l T : Addr} {rows : List (Addr × List Value)} {acc : List Value} {Q : Value → Shared → Prop} (hh : A.handled = none) (hl : s.heap.IsList l (rows.map fun r => Value.ref r.1).toArray) (hT : s.heap.IsList T acc.toArray) (hr : ∀ r ∈ rows, s.heap.IsList r.1 r.2.toArray)
    (hz : acc.length + (rows.map fun r => r.2.length).sum ≤ sizeLine)
    (h : ∀ h' tk T', (∀ b o, s.heap.get? b = some o → h'.get? b = some o) → ((rows = [] ∧ T' = T) ∨ (∃ c, h'.get? T' = some { cls := .type "list", dict := none, data := .seq (acc ++ rows.flatMap fun r => r.2).toArray c, slots := #[] }) ∧ s.heap.objs.size ≤ T' ∧ rows ≠ []) → Q (.ref T') { s with heap := h', toks := tk }) :
    wpAny (model prog w) A (call (.builtin "sum") [.ref l, .ref T]) Q E s := by
  refine PySem.call_function_tree PySem.F.kind_sum PySem.F.plain_sum PySem.F.entry_sum (args_sum2 _ _) ?_
  unfold Builtin.«sum»
  simp only [List.length_cons, List.length_nil]
  rw [if_neg (by decide)]
  refine wpAny_bind (wpAny_of_eq (show Builtin.Builtins.bindParams "sum" ["start"] 0 ⟨[Value.ref T], []⟩ = pure [some (Value.ref T)] from rfl) ?_)
  refine wpAny_bind (wpAny_pyIter_list hl ?_)
  generalize hs2 : ({ s with heap := s.heap.push { cls := .type "list_iterator", data := .fields #[.ref l, .int 0 0] } } : Shared) = s2
  have hI : s2.heap.IsListIter s.heap.objs.size l 0 := by subst hs2; exact ⟨_, Heap.get?_push_size _ rfl, rfl, rfl⟩
  have k2 : ∀ b o, s.heap.get? b = some o → s2.heap.get? b = some o := by subst hs2; exact fun b o e => Heap.get?_push_of_some _ e
  have hz2 : s2.heap.objs.size = s.heap.objs.size + 1 := by subst hs2; exact Heap.size_push _ _
  have hT2 : s2.heap.IsList T acc.toArray := hT.at fun o e => k2 _ o e
  dsimp only
  refine wpAny_bind (wpAny_pure ?_)
  simp only [List.forIn_cons, List.forIn_nil]
  refine wpAny_bind (wpAny_bind (wpAny_bind (wpAny_isInstance (T := "list") (b := false) hT2.typeIs (by rw [isSubtype_type]; kernel_rfl) ?_)))
  simp only [Bool.false_eq_true, if_false]
  refine wpAny_pure (wpAny_bind (wpAny_bind (wpAny_isInstance (T := "list") (b := false) hT2.typeIs (by rw [isSubtype_type]; kernel_rfl) ?_)))
  simp only [Bool.false_eq_true, if_false]
  refine wpAny_pure (wpAny_bind (wpAny_bind (wpAny_isInstance (T := "list") (b := false) hT2.typeIs (by rw [isSubtype_type]; kernel_rfl) ?_)))
  simp only [Bool.false_eq_true, if_false]
  refine wpAny_pure (wpAny_pure ?_)
  refine wpAny_bind (wpAny_newObj_type ?_)
  obtain ⟨ol, el, _⟩ := id hl
  obtain ⟨oT, eT, _⟩ := id hT
  have ll := Heap.lt_size el
  have lT := Heap.lt_size eT
  have l2 : s.heap.objs.size < s2.heap.objs.size := by rw [hz2]; exact Nat.lt_succ_self _
  have lr : ∀ r ∈ rows, r.1 < s.heap.objs.size := fun r h => by obtain ⟨o, e, _⟩ := hr r h; exact Heap.lt_size e
  refine wpAny_pure ⟨plainId_quiet PySem.F.plain_sum_loop _, sum_rows (I := s.heap.objs.size) (l := l) (S := s2.heap.objs.size) rows (Nat.ne_of_gt l2) (Nat.ne_of_gt (Nat.lt_trans ll l2)) (Nat.ne_of_lt ll) hh (fun r h => ⟨Nat.ne_of_lt (Nat.lt_trans (lr r h) l2), Nat.ne_of_lt (lr r h)⟩) rows.length 0 _ T acc (by omega) ?_ ?_ ⟨_, Heap.get?_push_size _ rfl⟩ (Nat.ne_of_lt (Nat.lt_trans lT l2)) (Nat.ne_of_lt lT) ?_ (.inl rfl) (fun r h => ?_) hz fun h' tk T' hk hor => ?_⟩
  · exact hI.at fun o e => Heap.get?_push_of_some _ e
  · exact hl.at fun o e => Heap.get?_push_of_some _ (k2 _ o e)
  · exact hT2.at fun o e => Heap.get?_push_of_some _ e
  · exact (hr r h).at fun o e => Heap.get?_push_of_some _ (k2 _ o e)
  · have e : ({ s with heap := h', toks := tk } : Shared) = { s2 with heap := h', toks := tk } := by subst hs2; rfl
    have z := h h' tk T' (fun b o eb => hk b o (Nat.ne_of_lt (Heap.lt_size eb)) (Nat.ne_of_lt (Nat.lt_trans (Heap.lt_size eb) l2)) (Heap.get?_push_of_some _ (k2 _ o eb))) (hor.imp id fun ⟨q0, q1, q2, q3⟩ => ⟨q0, by
      have q' : (s2.heap.push _).objs.size ≤ T' := q2 (List.length_pos_iff.mpr q3)
      rw [Heap.size_push] at q'
      exact Nat.le_trans (Nat.le_of_lt l2) (Nat.le_trans (Nat.le_succ _) q'), q3⟩)
    rw [e] at z
    exact z
end
/-- the rows of a list of lists -/
def catM (M : Mem) : List D → Option (List (List D))
  | [] => some []
  | d :: r => match seqL M d, catM M r with
    | some ys, some l => some (ys :: l)
    | _, _ => none
def sum2S (ds : List D) (M : Mem) : R RV := match ds with
  | [d, e] => (match (seqL M d).bind (catM M), seqL M e with
    | some rows, some zs => if zs.length + (rows.map List.length).sum ≤ sizeLine then (match rows with
      | [] => .ok (.val e) M
      | rows => .ok (.own (.lst (zs ++ rows.flatten))) M) else .stuck
    | _, _ => .stuck)
  | ds => sumS ds M
/-- the rows as they lie -/
theorem catM_at {X : Cx} {pins : List (Addr × Obj)} {σ : L2.St} {F H : Hp} {io : List Addr} {M : Mem} {s : Shared} (I : Inv X pins σ H s) (ha : HA X.K F io H M) : ∀ {xs : List D} {rows : List (List D)} {vs : List V} {us : List Value}, catM M xs = some rows → RelL X.K F io xs vs → Vals vs us →
    ∃ rs : List (Addr × List Value × List V), us = rs.map (fun r => Value.ref r.1) ∧ (∀ r ∈ rs, s.heap.IsList r.1 r.2.1.toArray ∧ Vals r.2.2 r.2.1) ∧ RelL X.K F io rows.flatten (rs.flatMap fun r => r.2.2) ∧ rows.map List.length = rs.map (fun r => r.2.1.length)
  | [], rows, vs, us, hc, rl, r => by
    cases hc
    obtain rfl := (show vs = [] from rl)
    cases r
    exact ⟨[], rfl, fun _ h => (List.not_mem_nil h).elim, rfl, rfl⟩
  | d :: xs, rows, vs, us, hc, rl, r => by
    obtain ⟨v, vr, rfl, r1, r2⟩ := (show ∃ v r, vs = v :: r ∧ Rel X.K F io d v ∧ RelL X.K F io xs r from rl)
    cases r with
    | cons rv rr =>
      rename_i u us
      unfold catM at hc
      cases h1 : seqL M d with
      | none => rw [h1] at hc; cases hc
      | some ys =>
        cases h2 : catM M xs with
        | none => rw [h1, h2] at hc; cases hc
        | some l =>
          rw [h1, h2] at hc
          cases hc
          obtain ⟨rs, e1, e2, e3, e4⟩ := catM_at I ha h2 r2 rr
          obtain ⟨a, ws, rfl, q1, q2⟩ := ha.lst r1 h1
          cases rv
          obtain ⟨z, its, n, w1, w2, w3⟩ := I.lstM q1
          refine ⟨(a, its, ws) :: rs, by rw [e1]; rfl, fun r hr => ?_, ?_, ?_⟩
          · rcases List.mem_cons.mp hr with rfl | hr
            · exact ⟨⟨_, w3, rfl, _, rfl⟩, w1⟩
            · exact e2 r hr
          · rw [List.flatten_cons, List.flatMap_cons]
            exact q2.append e3
          · rw [List.map_cons, List.map_cons, e4, q2.length, w2]
theorem vals_flat : ∀ {rs : List (Addr × List Value × List V)}, (∀ r ∈ rs, Vals r.2.2 r.2.1) → Vals (rs.flatMap fun r => r.2.2) (rs.flatMap fun r => r.2.1)
  | [], _ => .nil
  | r :: rs, h => by
    rw [List.flatMap_cons, List.flatMap_cons]
    exact (h r List.mem_cons_self).append (vals_flat fun r hr => h r (List.mem_cons_of_mem _ hr))
theorem blt_sum2 {X : Cx} (hc : X.calm = true) : CallR X (.builtin "sum") (rCall X.K sum2S) := by
  intro pins s σ H xs us Q I r h
  obtain ⟨F, io, M, ds, W, σ', ha, rl, p⟩ := h
  unfold sum2S at p
  split at p
  · rename_i d e
    obtain ⟨v, w, rfl, r1, r2⟩ := relL2 rl
    split at p
    · rename_i rows zs hr hz
      split at p
      · rename_i hsz
        cases h1 : seqL M d with
        | none => rw [h1] at hr; cases hr
        | some ys =>
          rw [h1] at hr
          obtain ⟨l, vs, rfl, q1, q2⟩ := ha.lst r1 h1
          obtain ⟨T, ws, rfl, q3, q4⟩ := ha.lst r2 hz
          cases r with
          | cons rv rr =>
            cases rr with
            | cons rw' rr =>
              cases rr
              cases rv
              cases rw'
              obtain ⟨z1, its, n, w1, w2, w3⟩ := I.lstM q1
              obtain ⟨z2, itT, n2, x1, x2, x3⟩ := I.lstM q3
              obtain ⟨rs, e1, e2, e3, e4⟩ := catM_at I ha hr q2 w1
              have lz : itT.length + ((rs.map fun r => (r.1, r.2.1)).map fun r => r.2.length).sum ≤ sizeLine := by
                rw [List.map_map]
                have : (rs.map ((fun r : Addr × List Value => r.2.length) ∘ fun r => (r.1, r.2.1))) = rows.map List.length := by rw [e4]; rfl
                rw [this, ← x2, ← q4.length]
                exact hsz
              refine call_sum_lists (rows := rs.map fun r => (r.1, r.2.1)) (acc := itT) (I.ok.hd hc) ?_ ⟨_, x3, rfl, _, rfl⟩ (fun r hr => ?_) lz fun h' tk T' hk hor => ?_
              · rw [List.map_map]
                have : (rs.map ((fun r : Addr × List Value => Value.ref r.1) ∘ fun r => (r.1, r.2.1))) = its := e1.symm
                rw [this]
                exact ⟨_, w3, rfl, _, rfl⟩
              · obtain ⟨r', hr', rfl⟩ := List.mem_map.mp hr
                exact (e2 r' hr').1
              · rcases hor with ⟨z, rfl⟩ | ⟨⟨c, ec⟩, hor, hne⟩
                · have hrs : rs = [] := List.map_eq_nil_iff.mp z
                  have hrows : rows = [] := by
                    rw [hrs] at e4
                    exact List.map_eq_nil_iff.mp e4
                  rw [hrows] at p
                  exact ⟨.ref T', H, I.kept hk, rfl, post_val p ha r2⟩
                · have hrows : rows ≠ [] := fun z => by
                    rw [z] at e4
                    have : rs = [] := List.map_eq_nil_iff.mp e4.symm
                    rw [this] at hne
                    exact hne rfl
                  have p' : PostE X.K W F io H σ' Q (.ok (.own (.lst (zs ++ rows.flatten))) M) := by
                    cases rows with
                    | nil => exact absurd rfl hrows
                    | cons a b => exact p
                  have hfl : ((rs.map fun r => (r.1, r.2.1)).flatMap fun r => r.2) = rs.flatMap fun r => r.2.1 := by rw [List.flatMap_map]
                  rw [hfl] at ec
                  have hv : Vals (ws ++ rs.flatMap fun r => r.2.2) (itT ++ rs.flatMap fun r => r.2.1) := x1.append (vals_flat fun r hr => (e2 r hr).2)
                  have rl2 : RelL X.K F io (zs ++ rows.flatten) (ws ++ rs.flatMap fun r => r.2.2) := q4.append e3
                  have hlen : (ws ++ rs.flatMap fun r => r.2.2).length ≤ sizeLine := by
                    rw [← rl2.length, List.length_append, List.length_flatten]
                    exact hsz
                  exact ⟨.ref T', _, I.laid (o := .lst (ws ++ rs.flatMap fun r => r.2.2)) hk hor ⟨hlen, _, c, hv, ec⟩, rfl, post_lst p' ha rl2 (I.hok.fresh hor)⟩
      · exact p.elim
    · exact p.elim
  · exact blt_sum hc pins s σ H _ us Q I r ⟨F, io, M, _, W, σ', ha, rl, p⟩
end Pc

set_option Elab.async false
set_option linter.all false
set_option maxRecDepth 100000
set_option maxHeartbeats 1000000
set_option autoImplicit false
/-! Pc10: statements -/
namespace Pc
open PySem PySem.Spec PyProof.Rows L2

inductive RS where
  | nx (env : Sl) (M : Mem) | bk (env : Sl) (M : Mem) | ct (env : Sl) (M : Mem)
  | rt (rv : RV) (M : Mem)
  | exc (c : Str) (ns : List Str) (ds : List D) (env : Sl) (M : Mem)
  | stuck
abbrev MS := Sl → Mem → RS
def R.toS {α : Type} (env : Sl) : R α → (α → Mem → RS) → RS
  | .ok a M, f => f a M
  | .exc c ns ds M, _ => .exc c ns ds env M
  | .stuck, _ => .stuck
def RS.seq : RS → MS → RS
  | .nx env M, f => f env M
  | .bk env M, _ => .bk env M
  | .ct env M, _ => .ct env M
  | .rt rv M, _ => .rt rv M
  | .exc c ns ds env M, _ => .exc c ns ds env M
  | .stuck, _ => .stuck
def PostS (K : PySem.W.Frag) (W : WX) (F : Hp) (io : List Addr) (H : Hp) (D : Ends) : RS → Prop
  | .nx env M => ∀ F' io' H' σ', HA K F' io' H' M → Ex F io H F' io' H' → ER K F' io' σ' env → D.nx σ' H'
  | .bk env M => ∀ F' io' H' σ', HA K F' io' H' M → Ex F io H F' io' H' → ER K F' io' σ' env → D.bk σ' H'
  | .ct env M => ∀ F' io' H' σ', HA K F' io' H' M → Ex F io H F' io' H' → ER K F' io' σ' env → D.ct σ' H'
  | .rt rv M => ∀ F' io' H' v, HA K F' io' H' M → Ex F io H F' io' H' → RR K F' io' H H' rv v → D.rt v H'
  | .exc c ns ds env M => ∀ F' io' H' dd σ', HA K F' io' H' M → Ex F io H F' io' H' → ER K F' io' σ' env → ExcAt K F' io' H H' ns ds dd → W (.ref (He.ga K c)) dd σ' H'
  | .stuck => False
def tS (K : PySem.W.Frag) (W : WX) (m : MS) : TS := fun D σ H => ∃ F io env M, HA K F io H M ∧ ER K F io σ env ∧ PostS K W F io H D (m env M)

section
variable {K : PySem.W.Frag} {W : WX} {F H F1 H1 : Hp} {io io1 : List Addr} {σ : St} {M : Mem} {D : Ends}
theorem PostS.from_ {r : RS} (x : Ex F io H F1 io1 H1) (h : PostS K W F io H D r) : PostS K W F1 io1 H1 D r := by
  cases r with
  | nx env M' => exact fun F' io' H' σ' a b c => h F' io' H' σ' a (x.trans b) c
  | bk env M' => exact fun F' io' H' σ' a b c => h F' io' H' σ' a (x.trans b) c
  | ct env M' => exact fun F' io' H' σ' a b c => h F' io' H' σ' a (x.trans b) c
  | rt rv M' => exact fun F' io' H' v a b c => h F' io' H' v a (x.trans b) (c.from_ x)
  | exc c ns ds env M' => exact fun F' io' H' dd σ' a b c e => h F' io' H' dd σ' a (x.trans b) c (e.from_ x)
  | stuck => exact h
theorem PostS.mono {D' : Ends} {r : RS} (h : PostS K W F io H D r) (h1 : ∀ σ H, D.nx σ H → D'.nx σ H) (h2 : ∀ v H, D.rt v H → D'.rt v H) (h3 : ∀ σ H, D.bk σ H → D'.bk σ H) (h4 : ∀ σ H, D.ct σ H → D'.ct σ H) : PostS K W F io H D' r := by
  cases r with
  | nx env M' => exact fun F' io' H' σ' a b c => h1 _ _ (h F' io' H' σ' a b c)
  | bk env M' => exact fun F' io' H' σ' a b c => h3 _ _ (h F' io' H' σ' a b c)
  | ct env M' => exact fun F' io' H' σ' a b c => h4 _ _ (h F' io' H' σ' a b c)
  | rt rv M' => exact fun F' io' H' v a b c => h2 _ _ (h F' io' H' v a b c)
  | exc c ns ds env M' => exact h
  | stuck => exact h
/-- a value read by a statement, then the rest -/
theorem tS_tD {m : MD} {k : Sl → Pc.D → Mem → RS} (h : tS K W (fun env M => (m env M).toS env (k env)) D σ H) :
    tD K W m σ H fun x H1 => ∃ d M1 F1 io1 env, HA K F1 io1 H1 M1 ∧ ER K F1 io1 σ env ∧ Rel K F1 io1 d x ∧ PostS K W F1 io1 H1 D (k env d M1) := by
  obtain ⟨F, io, env, M, ha, er, p⟩ := h
  refine ⟨F, io, env, M, ha, er, ?_⟩
  dsimp only at p
  cases q : m env M with
  | stuck => rw [q] at p; exact p
  | exc c ns ds M' => rw [q] at p; exact fun F' io' H' dd a b c => p F' io' H' dd σ a b (er.mono b.sub b.ids) c
  | ok d M1 =>
    rw [q] at p
    intro F1 io1 H1 x a b c
    exact ⟨d, M1, F1, io1, env, a, er.mono b.sub b.ids, c, PostS.from_ b p⟩
theorem tS_tDs {m : MDs} {k : Sl → List Pc.D → Mem → RS} (h : tS K W (fun env M => (m env M).toS env (k env)) D σ H) :
    tDs K W m σ H fun xs H1 => ∃ ds M1 F1 io1 env, HA K F1 io1 H1 M1 ∧ ER K F1 io1 σ env ∧ RelL K F1 io1 ds xs ∧ PostS K W F1 io1 H1 D (k env ds M1) := by
  obtain ⟨F, io, env, M, ha, er, p⟩ := h
  refine ⟨F, io, env, M, ha, er, ?_⟩
  dsimp only at p
  cases q : m env M with
  | stuck => rw [q] at p; exact p
  | exc c ns ds M' => rw [q] at p; exact fun F' io' H' dd a b c => p F' io' H' dd σ a b (er.mono b.sub b.ids) c
  | ok d M1 =>
    rw [q] at p
    intro F1 io1 H1 x a b c
    exact ⟨d, M1, F1, io1, env, a, er.mono b.sub b.ids, c, PostS.from_ b p⟩
theorem tS_tT {m : MT} {k : Sl → Bool → Mem → RS} (h : tS K W (fun env M => (m env M).toS env (k env)) D σ H) :
    tT K W m σ H fun b H1 => ∃ M1 F1 io1 env, HA K F1 io1 H1 M1 ∧ ER K F1 io1 σ env ∧ PostS K W F1 io1 H1 D (k env b M1) := by
  obtain ⟨F, io, env, M, ha, er, p⟩ := h
  refine ⟨F, io, env, M, ha, er, ?_⟩
  dsimp only at p
  cases q : m env M with
  | stuck => rw [q] at p; exact p
  | exc c ns ds M' => rw [q] at p; exact fun F' io' H' dd a b c => p F' io' H' dd σ a b (er.mono b.sub b.ids) c
  | ok d M1 =>
    rw [q] at p
    intro F1 io1 H1 a b
    exact ⟨M1, F1, io1, env, a, er.mono b.sub b.ids, PostS.from_ b p⟩
theorem ER.put {env : Sl} {i : Nat} {d : Pc.D} {v : V} (h : ER K F io σ env) (r : Rel K F io d v) : ER K F io (σ.set i (some v)) (env.set i (some d)) := by
  refine ⟨by rw [List.length_set, List.length_set, h.1], fun j e q => ?_⟩
  by_cases hj : i = j
  · subst hj
    have hl : i < env.length := by
      have := (List.getElem?_eq_some_iff.mp q).1
      rwa [List.length_set] at this
    rw [List.getElem?_set_self hl] at q
    cases q
    exact ⟨v, by rw [List.getElem?_set_self (by rw [← h.1]; exact hl)], r⟩
  · rw [List.getElem?_set_ne hj] at q
    rw [List.getElem?_set_ne hj]
    exact h.2 j e q
end

section
variable {K : PySem.W.Frag} {W : WX} {σ : St} {H : Hp}
theorem PostD.mono' {F : Hp} {io : List Addr} {Q Q' : VK} {r : R Pc.D} (h : PostD K W F io H σ Q r) (hq : ∀ v H', Q v H' → Q' v H') : PostD K W F io H σ Q' r := by
  cases r with
  | ok rv M' => exact fun F' io' H' v a b c => hq _ _ (h F' io' H' v a b c)
  | exc c ns ds M' => exact h
  | stuck => exact h
theorem PE_t_mono {m : MD} {Q Q' : VK} (h : tD K W m σ H Q) (hq : ∀ v H', Q v H' → Q' v H') : tD K W m σ H Q' := by
  obtain ⟨F, io, env, M, ha, er, p⟩ := h
  exact ⟨F, io, env, M, ha, er, p.mono' hq⟩
theorem tT_mono {m : MT} {Q Q' : Bool → Hp → Prop} (h : tT K W m σ H Q) (hq : ∀ v H', Q v H' → Q' v H') : tT K W m σ H Q' := by
  obtain ⟨F, io, env, M, ha, er, p⟩ := h
  refine ⟨F, io, env, M, ha, er, ?_⟩
  cases r : m env M with
  | ok rv M' => rw [r] at p; exact fun F' io' H' a b => hq _ _ (p F' io' H' a b)
  | exc c ns ds M' => rw [r] at p; exact p
  | stuck => rw [r] at p; exact p
theorem tDs_mono {m : MDs} {Q Q' : List V → Hp → Prop} (h : tDs K W m σ H Q) (hq : ∀ v H', Q v H' → Q' v H') : tDs K W m σ H Q' := by
  obtain ⟨F, io, env, M, ha, er, p⟩ := h
  exact ⟨F, io, env, M, ha, er, p.mono hq⟩
end
/-! ### a fresh value is numbered, or frozen -/
def alD (mu : Bool) : R RV → R Pc.D
  | .ok (.val d) M => .ok d M
  | .ok (.own o) M => if mu then .ok (.ref M.length) (M ++ [o]) else .ok o.d M
  | .exc c ns ds M => .exc c ns ds M
  | .stuck => .stuck
def mA (mu : Bool) (m : ME) : MD := fun env M => alD mu (m env M)
theorem mA_false (m : ME) : mA false m = mD m := by
  funext env M
  unfold mA mD
  cases m env M with
  | ok rv M' => cases rv <;> rfl
  | exc c ns ds M' => rfl
  | stuck => rfl
section
variable {X : Cx} {W : WX} {e : Expr} {es : List Expr}
theorem tE_of_tA {K : PySem.W.Frag} {m : ME} (mu : Bool) {σ : St} {H : Hp} {Q : VK} (h : tD K W (mA mu m) σ H Q) : tE K W m σ H Q := by
  cases mu with
  | false => rw [mA_false] at h; exact tE_of_tD h
  | true =>
    obtain ⟨F, io, env, M, ha, er, p⟩ := h
    refine ⟨F, io, env, M, ha, er, ?_⟩
    unfold mA at p
    cases r : m env M with
    | stuck => rw [r] at p; exact p
    | exc c ns ds M' => rw [r] at p; exact p
    | ok rv M' =>
      rw [r] at p
      intro F' io' H' v a b c
      cases rv with
      | val d => exact p F' io' H' v a b c
      | own o =>
        obtain ⟨l, e, n, nf, ni, mr⟩ := c
        subst e
        exact p F' (io' ++ [l]) H' _ (a.alloc nf ni mr) (Ex.alloc b n) ⟨l, rfl, by rw [← a.len, List.getElem?_append_right (Nat.le_refl _), Nat.sub_self]; rfl⟩
theorem pe_a {m : ME} (mu : Bool) (h : PE X e (tE X.K W m)) : PE X e (tD X.K W (mA mu m)) := PE.imp' h fun _ _ _ => tE_of_tA mu
/-- arguments with marks: which of them are numbered -/
def mConsA (mu : Bool) (m : ME) (ms : MDs) : MDs := fun env M => (mA mu m env M).bind fun d M1 => (ms env M1).bind fun ds M2 => .ok (d :: ds) M2
theorem am_consA {mu : Bool} {m : ME} {ms : MDs} (he : PE X e (tE X.K W m)) (hr : PA X es (tDs X.K W ms)) (hs : starEach (e :: es) X.env = (false, eval e X.env) :: starEach es X.env) : PA X (e :: es) (tDs X.K W (mConsA mu m ms)) :=
  PA.imp' (pa_cons (pe_a mu he) hr hs) fun σ H Q h =>
    tDs_bind (k := fun d env M1 => (ms env M1).bind fun ds M2 => .ok (d :: ds) M2) h fun d M1 F1 io1 H1 x env a b c p =>
      postDs_cons (xs := [d]) (vs := [x]) a b ⟨x, [], rfl, c, rfl⟩ p
end

/-! ### blocks, small statements -/
def mNext : MS := fun env M => .nx env M
def mBreak : MS := fun env M => .bk env M
def mCont : MS := fun env M => .ct env M
def mSeq (m1 m2 : MS) : MS := fun env M => (m1 env M).seq m2
def mStS : MS := fun _ _ => .stuck
def mDrop (m : ME) : MS := fun env M => (mD m env M).toS env fun _ M1 => .nx env M1
def mRet (m : ME) : MS := fun env M => (m env M).toS env fun rv M1 => .rt rv M1
def mRetN : MS := fun _ M => .rt (.val .non) M
def mIfS (t : MT) (m1 m2 : MS) : MS := fun env M => (t env M).toS env fun b M1 => if b then m1 env M1 else m2 env M1
def mSet (mu : Bool) (i : Nat) (m : ME) : MS := fun env M => (mA mu m env M).toS env fun d M1 => .nx (env.set i (some d)) M1
section
variable {X : Cx} {W : WX} {st : Stmt} {sts : List Stmt} {e : Expr} {pos : Pos}
theorem sm_stuck {t : Stmt} : PS X t (tS X.K W mStS) := ⟨fun pins s σ H D I h => by obtain ⟨F, io, env, M, ha, er, p⟩ := h; exact p.elim⟩
theorem sms_stuck {t : List Stmt} : PSs X t (tS X.K W mStS) := ⟨fun pins s σ H D I h => by obtain ⟨F, io, env, M, ha, er, p⟩ := h; exact p.elim⟩
theorem tS_next {σ : St} {H : Hp} {D : Ends} (h : tS X.K W mNext D σ H) : D.nx σ H := by
  obtain ⟨F, io, env, M, ha, er, p⟩ := h
  exact p F io H σ ha .refl er
theorem sms_nil : PSs X [] (tS X.K W mNext) := PSs.imp' pss_nil fun D σ H h => tS_next h
theorem sm_pass : PS X (.Pass pos) (tS X.K W mNext) := PS.imp' ps_pass fun D σ H h => tS_next h
theorem sm_doc {x j p} : PS X (.Expr (.Constant (.str x) j p) pos) (tS X.K W mNext) := PS.imp' ps_doc fun D σ H h => tS_next h
theorem sm_break : PS X (.Break pos) (tS X.K W mBreak) := PS.imp' ps_break fun D σ H h => by
  obtain ⟨F, io, env, M, ha, er, p⟩ := h
  exact p F io H σ ha .refl er
theorem sm_cont : PS X (.Continue pos) (tS X.K W mCont) := PS.imp' ps_continue fun D σ H h => by
  obtain ⟨F, io, env, M, ha, er, p⟩ := h
  exact p F io H σ ha .refl er
theorem sms_cons {m1 m2 : MS} (h1 : PS X st (tS X.K W m1)) (h2 : PSs X sts (tS X.K W m2)) : PSs X (st :: sts) (tS X.K W (mSeq m1 m2)) := PSs.imp' (pss_cons h1 h2) fun D σ H h => by
  obtain ⟨F, io, env, M, ha, er, p⟩ := h
  refine ⟨F, io, env, M, ha, er, ?_⟩
  unfold mSeq at p
  cases q : m1 env M with
  | nx env1 M1 =>
    rw [q] at p
    exact fun F' io' H' σ' a b c => ⟨F', io', env1, M1, a, c, PostS.from_ b p⟩
  | bk env1 M1 => rw [q] at p; exact p
  | ct env1 M1 => rw [q] at p; exact p
  | rt rv M1 => rw [q] at p; exact p
  | exc c ns ds env1 M1 => rw [q] at p; exact p
  | stuck => rw [q] at p; exact p
theorem sm_ret {m : ME} (h : PE X e (tE X.K W m)) : PS X (.Return (some e) pos) (tS X.K W (mRet m)) := PS.imp' (ps_ret h) fun D σ H h => by
  obtain ⟨F, io, env, M, ha, er, p⟩ := h
  refine ⟨F, io, env, M, ha, er, ?_⟩
  unfold mRet at p
  cases q : m env M with
  | stuck => rw [q] at p; exact p
  | exc c ns ds M' => rw [q] at p; exact fun F' io' H' dd a b c => p F' io' H' dd σ a b (er.mono b.sub b.ids) c
  | ok rv M1 => rw [q] at p; exact p
theorem sm_retN : PS X (.Return none pos) (tS X.K W mRetN) := PS.imp' ps_retN fun D σ H h => by
  obtain ⟨F, io, env, M, ha, er, p⟩ := h
  exact p F io H .non ha .refl rfl
theorem sm_expr {m : ME} (h : PE X e (tE X.K W m)) (hs : swapsWith e none pos.line X.env = pure false) : PS X (.Expr e pos) (tS X.K W (mDrop m)) := PS.imp' (ps_expr (pe_d h) hs) fun D σ H h => by
  refine (PE_t_mono (tS_tD (k := fun env _ M1 => .nx env M1) h)) fun x H1 ⟨d, M1, F1, io1, env, a, b, c, p⟩ => p F1 io1 H1 σ a .refl b
theorem sm_if {c : Expr} {a b : List Stmt} {t : MT} {m1 m2 : MS} (hc : PT X c (tT X.K W t)) (h1 : PSs X a (tS X.K W m1)) (h2 : PSs X b (tS X.K W m2)) : PS X (.If c a b pos) (tS X.K W (mIfS t m1 m2)) := PS.imp' (ps_if hc h1 h2) fun D σ H h => by
  refine (tT_mono (tS_tT (k := fun env b M1 => if b then m1 env M1 else m2 env M1) h)) fun b H1 ⟨M1, F1, io1, env, a, c, p⟩ => ?_
  cases b with
  | true => exact ⟨F1, io1, env, M1, a, c, p⟩
  | false => exact ⟨F1, io1, env, M1, a, c, p⟩
theorem sm_set {mu : Bool} {i : Nat} {x : Str} {m : ME} {pos' : Pos} (hN : X.N.Nodup) (hi : X.N[i]? = some x) (hx : Loc X.env.scope x) (hf : X.fn x = true ∨ X.env.scope.names.lookup x = some .local) (h : PE X e (tE X.K W m)) (hs : swapsWith e (some (.Name x pos')) pos.line X.env = pure false) :
    PS X (.Assign [.Name x pos'] e pos) (tS X.K W (mSet mu i m)) := PS.imp' (ps_set hN hi hx (pe_a mu h) hs hf) fun D σ H h => by
  refine (PE_t_mono (tS_tD (k := fun env d M1 => .nx (env.set i (some d)) M1) h)) fun x H1 ⟨d, M1, F1, io1, env, a, b, c, p⟩ => p F1 io1 H1 _ a .refl (b.put c)
end
end Pc
set_option Elab.async false
set_option linter.all false
set_option maxRecDepth 100000
set_option maxHeartbeats 1000000
set_option autoImplicit false
/-! Pc11: targets, what is walked, loops, list comprehensions -/
namespace Pc
open PySem PySem.Spec PyProof.Rows L2

/-! ### targets: the slots and what comes into them -/
abbrev MG := D → Option (List (Nat × D))
abbrev MGs := List D → Option (List (Nat × D))
def gN (i : Nat) : MG := fun d => some [(i, d)]
def gT (n : Nat) (gs : MGs) : MG := fun d => match seqT d with
  | some xs => if xs.length = n then gs xs else none
  | none => none
def gsNil : MGs := fun xs => match xs with
  | [] => some []
  | _ => none
def gsCons (g : MG) (gs : MGs) : MGs := fun xs => match xs with
  | x :: r => match g x, gs r with
    | some a, some b => some (a ++ b)
    | _, _ => none
  | [] => none
def putE (env : Sl) (bs : List (Nat × D)) : Sl := bs.foldl (fun e b => e.set b.1 (some b.2)) env
def putV (σ : St) (us : List (Nat × V)) : St := us.foldl (fun e b => e.set b.1 (some b.2)) σ
def RelB (K : PySem.W.Frag) (F : Hp) (io : List Addr) : List (Nat × D) → List (Nat × V) → Prop
  | [], us => us = []
  | (i, d) :: r, us => ∃ v t, us = (i, v) :: t ∧ Rel K F io d v ∧ RelB K F io r t
def tG (K : PySem.W.Frag) (g : MG) : TG := fun v σ H Q => ∃ F io M d bs, HA K F io H M ∧ Rel K F io d v ∧ g d = some bs ∧ ∀ us, RelB K F io bs us → Q (putV σ us) H
def tGs (K : PySem.W.Frag) (g : MGs) : TGs := fun vs σ H Q => ∃ F io M ds bs, HA K F io H M ∧ RelL K F io ds vs ∧ g ds = some bs ∧ ∀ us, RelB K F io bs us → Q (putV σ us) H
section
variable {K : PySem.W.Frag} {F F' : Hp} {io io' : List Addr} {σ : St} {env : Sl}
theorem RelB.append : ∀ {a b : List (Nat × D)} {us : List (Nat × V)}, RelB K F io (a ++ b) us → ∃ u1 u2, us = u1 ++ u2 ∧ RelB K F io a u1 ∧ RelB K F io b u2
  | [], b, us, h => ⟨[], us, rfl, rfl, h⟩
  | (i, d) :: r, b, us, h => by
    obtain ⟨v, t, e, h1, h2⟩ := (show ∃ v t, us = (i, v) :: t ∧ Rel K F io d v ∧ RelB K F io (r ++ b) t from h)
    obtain ⟨u1, u2, e2, h3, h4⟩ := RelB.append h2
    exact ⟨(i, v) :: u1, u2, by rw [e, e2]; rfl, ⟨v, u1, rfl, h1, h3⟩, h4⟩
theorem RelB.app : ∀ {a b : List (Nat × D)} {u1 u2 : List (Nat × V)}, RelB K F io a u1 → RelB K F io b u2 → RelB K F io (a ++ b) (u1 ++ u2)
  | [], b, u1, u2, h1, h2 => by rw [show u1 = [] from h1]; exact h2
  | (i, d) :: r, b, u1, u2, h, h2 => by
    obtain ⟨v, t, e, h1, h3⟩ := (show ∃ v t, u1 = (i, v) :: t ∧ Rel K F io d v ∧ RelB K F io r t from h)
    subst e
    exact ⟨v, t ++ u2, rfl, h1, RelB.app h3 h2⟩
theorem ER.puts : ∀ {bs : List (Nat × D)} {us : List (Nat × V)} {σ : St} {env : Sl}, ER K F io σ env → RelB K F io bs us → ER K F io (putV σ us) (putE env bs)
  | [], us, σ, env, h, r => by rw [show us = [] from r]; exact h
  | (i, d) :: bs, us, σ, env, h, r => by
    obtain ⟨v, t, e, h1, h3⟩ := (show ∃ v t, us = (i, v) :: t ∧ Rel K F io d v ∧ RelB K F io bs t from r)
    subst e
    show ER K F io (putV (σ.set i (some v)) t) (putE (env.set i (some d)) bs)
    exact ER.puts (h.put h1) h3
theorem putV_app (σ : St) (a b : List (Nat × V)) : putV σ (a ++ b) = putV (putV σ a) b := by unfold putV; rw [List.foldl_append]
theorem wipe_put {v : V} : ∀ {vs : List Nat} {i : Nat} (σ : St), i ∈ vs → wipe (σ.set i (some v)) vs = wipe σ vs
  | j :: vs, i, σ, h => by
    unfold wipe
    by_cases hm : i ∈ vs
    · rw [wipe_put σ hm]
    · have hj : i = j := by
        rcases List.mem_cons.mp h with e | h
        · exact e
        · exact absurd h hm
      subst hj
      refine List.ext_getElem? fun k => ?_
      by_cases hk : i = k
      · subst hk
        rw [List.getElem?_set, List.getElem?_set, wipe_length, wipe_length, List.length_set, if_pos rfl, if_pos rfl]
      · rw [List.getElem?_set_ne hk, List.getElem?_set_ne hk]
        by_cases hk2 : k ∈ vs
        · rw [wipe_in hk2, wipe_in hk2, List.length_set]
        · rw [wipe_out hk2, wipe_out hk2, List.getElem?_set_ne hk]
where wipe_in : ∀ {σ : St} {k : Nat} {vs : List Nat}, k ∈ vs → (wipe σ vs)[k]? = if k < σ.length then some none else none
  | σ, k, j :: vs, h => by
    unfold wipe
    by_cases hj : j = k
    · subst hj
      rw [List.getElem?_set, if_pos rfl, wipe_length]
    · rw [List.getElem?_set_ne hj]
      rcases List.mem_cons.mp h with e | h
      · exact absurd e.symm hj
      · exact wipe_in h
theorem wipe_putV {vs : List Nat} : ∀ {us : List (Nat × V)} (σ : St), (∀ p ∈ us, p.1 ∈ vs) → wipe (putV σ us) vs = wipe σ vs
  | [], σ, h => rfl
  | (i, v) :: us, σ, h => by
    show wipe (putV (σ.set i (some v)) us) vs = _
    rw [wipe_putV _ fun p hp => h p (List.mem_cons_of_mem _ hp), wipe_put σ (h (i, v) List.mem_cons_self)]
theorem RelB.ix : ∀ {bs : List (Nat × D)} {us : List (Nat × V)}, RelB K F io bs us → us.map (·.1) = bs.map (·.1)
  | [], us, h => by rw [show us = [] from h]; rfl
  | (i, d) :: bs, us, r => by
    obtain ⟨v, t, e, h1, h3⟩ := (show ∃ v t, us = (i, v) :: t ∧ Rel K F io d v ∧ RelB K F io bs t from r)
    subst e
    rw [List.map_cons, List.map_cons, h3.ix]
def wipeS (env : Sl) : List Nat → Sl
  | [] => env
  | v :: vs => (wipeS env vs).set v none
theorem ER.wipe (h : ER K F io σ env) : ∀ vs : List Nat, ER K F io (wipe σ vs) (wipeS env vs)
  | [] => h
  | v :: vs => by
    have ih := ER.wipe h vs
    refine ⟨by unfold wipeS L2.wipe; rw [List.length_set, List.length_set, ih.1], fun i d e => ?_⟩
    unfold wipeS at e
    unfold L2.wipe
    by_cases hi : v = i
    · subst hi
      by_cases hv : v < (wipeS env vs).length
      · rw [List.getElem?_set_self hv] at e; cases e
      · rw [List.getElem?_eq_none (by simpa using hv)] at e; cases e
    · rw [List.getElem?_set_ne hi] at e ⊢
      exact ih.2 i d e
end
section
variable {X : Cx} {pos : Pos} {es : List Expr} {e : Expr}
theorem gm_name {i : Nat} {x : Str} (hN : X.N.Nodup) (hi : X.N[i]? = some x) (hx : Loc X.env.scope x) (hf : X.fn x = true ∨ X.env.scope.names.lookup x = some .local) : PG X (.Name x pos) (tG X.K (gN i)) :=
  ⟨fun pins s σ H v u Q I r ⟨F, io, M, d, bs, a, rd, e, q⟩ => by
    cases e
    exact (pg_name hN hi hx hf).run pins s σ H v u Q I r (q [(i, v)] ⟨v, [], rfl, rd, rfl⟩)⟩
theorem gsm_nil : PGs X [] (tGs X.K gsNil) :=
  ⟨fun pins s σ H vs us Q I r ⟨F, io, M, ds, bs, a, rd, e, q⟩ => by
    unfold gsNil at e
    split at e
    · cases e
      have e0 : vs = [] := rd
      exact pgs_nil.run pins s σ H vs us Q I r ⟨e0, q [] rfl⟩
    · cases e⟩
theorem each_cons {e : Expr} (h : noStar e = true) (es : List Expr) (env : PySem.Env) : assignEach (e :: es) env = (false, assign e env) :: assignEach es env := by
  cases e <;> first | rfl | cases h
theorem each_len {es : List Expr} (h : es.all noStar = true) (env : PySem.Env) : (assignEach es env).length = es.length ∧ (assignEach es env).findIdx? (·.1) = none := by
  induction es with
  | nil => exact ⟨rfl, rfl⟩
  | cons e es ih =>
    rw [List.all_cons, Bool.and_eq_true] at h
    rw [each_cons h.1]
    obtain ⟨h1, h2⟩ := ih h.2
    exact ⟨by rw [List.length_cons, List.length_cons, h1], by rw [List.findIdx?_cons]; simp [h2]⟩
theorem gsm_cons {g : MG} {gs : MGs} (h1 : PG X e (tG X.K g)) (h2 : PGs X es (tGs X.K gs)) (hs : noStar e = true) : PGs X (e :: es) (tGs X.K (gsCons g gs)) :=
  ⟨fun pins s σ H vs us Q I r ⟨F, io, M, ds, bs, a, rd, e, q⟩ => by
    unfold gsCons at e
    split at e
    · rename_i x xs
      split at e
      · rename_i b1 b2 e1 e2
        cases e
        obtain ⟨v, vr, ev, r1, r2⟩ := (show ∃ v r, vs = v :: r ∧ Rel X.K F io x v ∧ RelL X.K F io xs r from rd)
        subst ev
        refine (pgs_cons h1 h2 (by rw [each_cons hs]; rfl)).run pins s σ H _ us Q I r ⟨v, vr, rfl, F, io, M, x, b1, a, r1, e1, fun u1 q1 => ⟨F, io, M, xs, b2, a, r2, e2, fun u2 q2 => ?_⟩⟩
        rw [← putV_app]
        exact q _ (q1.app q2)
      · cases e
    · cases e⟩
theorem gm_tup {k n : Nat} {gs : MGs} (hc : X.calm = true) (h : PGs X es (tGs X.K gs)) (hs : es.all noStar = true) (hn : es.length = n) : PG X (.Tuple es k pos) (tG X.K (gT n gs)) :=
  ⟨fun pins s σ H v u Q I r ⟨F, io, M, d, bs, a, rd, e, q⟩ => by
    unfold gT at e
    split at e
    · rename_i xs hx
      split at e
      · rename_i hl
        obtain ⟨p, vs, rfl, hq, rl⟩ := a.seqT rd hx
        refine (pg_tup hc h (by rw [(each_len hs X.env).1, hn]) (each_len hs X.env).2).run pins s σ H _ u Q I r ⟨p, vs, rfl, hq, by rw [← rl.length, hl], F, io, M, xs, bs, a, rl, e, q⟩
      · cases e
    · cases e⟩
end

/-! ### what is walked -/
abbrev GI := Mem → Nat → Option (Option D)
abbrev MI := Sl → Mem → R (Nat × GI)
def ItOk (K : PySem.W.Frag) (F : Hp) (io : List Addr) (J : It) (g : GI) : Prop :=
  ∀ F1 io1 H1 M1, HA K F1 io1 H1 M1 → Same F F1 → (∀ (i : Nat) (a : Addr), io[i]? = some a → io1[i]? = some a) → ∀ k,
    (g M1 k = some none → J.stop k H1) ∧ ∀ d, g M1 k = some (some d) → J.go k H1 ∧ ∀ x H', J.yld k H1 x H' → ∃ F2, HA K F2 io1 H' M1 ∧ Ex F1 io1 H1 F2 io1 H' ∧ Rel K F2 io1 d x
def PostI (K : PySem.W.Frag) (W : WX) (F : Hp) (io : List Addr) (H : Hp) (σ : St) (Q : It → Hp → Prop) : R (Nat × GI) → Prop
  | .ok g M' => ∀ F' io' H' J, HA K F' io' H' M' → Ex F io H F' io' H' → ItOk K F' io' J g.2 → Q J H'
  | .exc c ns ds M' => ∀ F' io' H' dd, HA K F' io' H' M' → Ex F io H F' io' H' → ExcAt K F' io' H H' ns ds dd → W (.ref (He.ga K c)) dd σ H'
  | .stuck => False
def tI (K : PySem.W.Frag) (W : WX) (m : MI) : TI := fun σ H Q => ∃ F io env M, HA K F io H M ∧ ER K F io σ env ∧ PostI K W F io H σ Q (m env M)
theorem PostI.from_ {K : PySem.W.Frag} {W : WX} {F H F1 H1 : Hp} {io io1 : List Addr} {σ : St} {Q : It → Hp → Prop} {r : R (Nat × GI)} (x : Ex F io H F1 io1 H1) (h : PostI K W F io H σ Q r) : PostI K W F1 io1 H1 σ Q r := by
  cases r with
  | ok rv M' => exact fun F' io' H' v a b c => h F' io' H' v a (x.trans b) c
  | exc c ns ds M' => exact fun F' io' H' dd a b c => h F' io' H' dd a (x.trans b) (c.from_ x)
  | stuck => exact h
theorem PI.imp' {X : Cx} {tg iter : Expr} {t t' : TI} (h : PI X tg iter t) (i : ∀ σ H Q, t' σ H Q → t σ H Q) : PI X tg iter t' := ⟨fun pins s σ H Q I hw => h.run pins s σ H Q I (i σ H Q hw)⟩
section
variable {K : PySem.W.Frag} {W : WX} {σ : St} {H : Hp}
theorem tI_tD {m : MD} {k : D → Mem → R (Nat × GI)} {Q : It → Hp → Prop} (h : tI K W (fun env M => (m env M).bind k) σ H Q) :
    tD K W m σ H fun x H1 => ∃ d M1 F1 io1, HA K F1 io1 H1 M1 ∧ Rel K F1 io1 d x ∧ PostI K W F1 io1 H1 σ Q (k d M1) := by
  obtain ⟨F, io, env, M, ha, er, p⟩ := h
  refine ⟨F, io, env, M, ha, er, ?_⟩
  dsimp only at p
  cases q : m env M with
  | stuck => rw [q] at p; exact p
  | exc c ns ds M' => rw [q] at p; exact p
  | ok d M1 =>
    rw [q] at p
    intro F1 io1 H1 x a b c
    exact ⟨d, M1, F1, io1, a, c, PostI.from_ b p⟩
theorem tI_tDs {m : MDs} {k : List D → Mem → R (Nat × GI)} {Q : It → Hp → Prop} (h : tI K W (fun env M => (m env M).bind k) σ H Q) :
    tDs K W m σ H fun xs H1 => ∃ ds M1 F1 io1, HA K F1 io1 H1 M1 ∧ RelL K F1 io1 ds xs ∧ PostI K W F1 io1 H1 σ Q (k ds M1) := by
  obtain ⟨F, io, env, M, ha, er, p⟩ := h
  refine ⟨F, io, env, M, ha, er, ?_⟩
  dsimp only at p
  cases q : m env M with
  | stuck => rw [q] at p; exact p
  | exc c ns ds M' => rw [q] at p; exact p
  | ok d M1 =>
    rw [q] at p
    intro F1 io1 H1 x a b c
    exact ⟨d, M1, F1, io1, a, c, PostI.from_ b p⟩
end
/-- a list or a tuple -/
def gSeq (d : D) : GI := fun M k => match seqA M d with
  | some xs => some xs[k]?
  | none => none
def mISeq (m : ME) : MI := fun env M => (mD m env M).bind fun d M1 => match seqA M1 d with
  | some xs => .ok (xs.length, gSeq d) M1
  | none => .stuck
def gRng (lo : Int) (n : Nat) : GI := fun _ k => some (if k < n then some (.int (lo + k)) else none)
def okI (i : Int) : Bool := decide (-(2 ^ 62) ≤ i) && decide (i < 2 ^ 62)
def rng1S (ds : List D) (M : Mem) : R (Nat × GI) := match ds with
  | [.int j] => if okI j then .ok (j.toNat, gRng 0 j.toNat) M else .stuck
  | _ => .stuck
def rng2S (ds : List D) (M : Mem) : R (Nat × GI) := match ds with
  | [.int i, .int j] => if okI i && okI j then .ok ((j - i).toNat, gRng i (j - i).toNat) M else .stuck
  | _ => .stuck
def mIRng1 (ms : MDs) : MI := fun env M => (ms env M).bind rng1S
def mIRng2 (ms : MDs) : MI := fun env M => (ms env M).bind rng2S
theorem okI_iff {i : Int} (h : okI i = true) : -(2 ^ 62) ≤ i ∧ i < 2 ^ 62 := by
  unfold okI at h
  rw [Bool.and_eq_true] at h
  exact ⟨of_decide_eq_true h.1, of_decide_eq_true h.2⟩
section
variable {X : Cx} {W : WX} {tg e : Expr} {es : List Expr}
theorem sqL_inj {K : PySem.W.Frag} {F H : Hp} {io : List Addr} {M : Mem} {d : D} {xs : List D} (ha : HA K F io H M) {a : Addr} (r : Rel K F io d (.ref a)) (e : seqL M d = some xs) : ∃ vs, H a = some (.lst vs) ∧ RelL K F io xs vs := by
  obtain ⟨b, vs, e1, e2, e3⟩ := ha.lst r e
  cases e1
  exact ⟨vs, e2, e3⟩
/-- what a tracked place or the kept text says of a list -/
theorem seq_it {K : PySem.W.Frag} {F H : Hp} {io : List Addr} {M : Mem} {d : D} {a : Addr} (ha : HA K F io H M) (r : Rel K F io d (.ref a)) {xs : List D} (e : seqL M d = some xs) : ItOk K F io (Itl K a) (gSeq d) := by
  intro F1 io1 H1 M1 h1 hs hi k
  have r1 := Rel.mono hs hi d _ r
  have nt : ∀ M', seqA M' d = seqL M' d := fun M' => by cases d <;> first | rfl | cases e
  refine ⟨fun q => ?_, fun y q => ?_⟩
  · unfold gSeq at q
    rw [nt] at q
    cases z : seqL M1 d with
    | none => rw [z] at q; cases q
    | some ys =>
      rw [z] at q
      obtain ⟨vs, e1, e2⟩ := sqL_inj h1 r1 z
      refine ⟨vs, .of e1, ?_⟩
      have q' : ys[k]? = none := Option.some.inj q
      rw [← e2.length]
      exact List.getElem?_eq_none_iff.mp q'
  · unfold gSeq at q
    rw [nt] at q
    cases z : seqL M1 d with
    | none => rw [z] at q; cases q
    | some ys =>
      rw [z] at q
      obtain ⟨vs, e1, e2⟩ := sqL_inj h1 r1 z
      have q' : ys[k]? = some y := Option.some.inj q
      obtain ⟨v, g1, g2⟩ := e2.get q'
      refine ⟨⟨vs, v, .of e1, g1⟩, fun x H' ⟨eh, yy⟩ => ?_⟩
      subst eh
      have := yy vs (.of e1)
      rw [g1] at this
      cases this
      exact ⟨F1, h1, .refl, g2⟩
theorem sqT_it {K : PySem.W.Frag} {F : Hp} {io : List Addr} {d : D} {a : Addr} (r : Rel K F io d (.ref a)) {xs : List D} (e : seqT d = some xs) : ItOk K F io (Itt K a) (gSeq d) := by
  intro F1 io1 H1 M1 h1 hs hi k
  have r1 := Rel.mono hs hi d _ r
  have nt : ∀ M', seqA M' d = some xs := fun M' => by cases d <;> first | exact e | cases e
  obtain ⟨b, vs, e1, e2, e3⟩ := h1.seqT r1 e
  cases e1
  refine ⟨fun q => ?_, fun y q => ?_⟩
  · unfold gSeq at q
    rw [nt] at q
    refine ⟨vs, e2, ?_⟩
    have q' : xs[k]? = none := Option.some.inj q
    rw [← e3.length]
    exact List.getElem?_eq_none_iff.mp q'
  · unfold gSeq at q
    rw [nt] at q
    have q' : xs[k]? = some y := Option.some.inj q
    obtain ⟨v, g1, g2⟩ := e3.get q'
    refine ⟨⟨vs, v, e2, g1⟩, fun x H' ⟨eh, yy⟩ => ?_⟩
    subst eh
    have := yy vs e2
    rw [g1] at this
    cases this
    exact ⟨F1, h1, .refl, g2⟩
theorem rng_it {K : PySem.W.Frag} {F : Hp} {io : List Addr} (lo : Int) (n : Nat) : ItOk K F io (Itr lo n) (gRng lo n) := by
  intro F1 io1 H1 M1 h1 hs hi k
  refine ⟨fun q => ?_, fun y q => ?_⟩
  · have q' : (if k < n then some (D.int (lo + k)) else none) = none := Option.some.inj q
    split at q'
    · cases q'
    · rename_i z; exact Nat.le_of_not_lt z
  · have q' : (if k < n then some (D.int (lo + k)) else none) = some y := Option.some.inj q
    split at q'
    · rename_i z
      cases q'
      refine ⟨z, fun x H' ⟨eh, ex⟩ => ?_⟩
      subst eh ex
      exact ⟨F1, h1, .refl, rfl⟩
    · cases q'
end
section
variable {X : Cx} {W : WX} {tg e : Expr} {es : List Expr}
/-- a thing that is a list or a tuple, walked -/
theorem pi_seq {l : Expr} {tl : TE} (hl : PE X l tl) : PI X tg l (fun σ H R => tl σ H fun x H1 => ∃ a, x = .ref a ∧ ((∃ xs, SqL X.K H1 a xs) ∧ R (Itl X.K a) H1 ∨ (∃ xs, SqT X.K H1 a xs) ∧ R (Itt X.K a) H1)) := by
  refine ⟨fun pins s σ H R I h => ?_⟩
  refine thn (hl.run pins s σ H _ I h) fun v s1 ⟨x, H1, I1, r1, q1⟩ => ?_
  obtain ⟨a, e, q⟩ := q1
  subst e
  cases r1
  rcases q with ⟨⟨xs, hq⟩, q⟩ | ⟨⟨xs, hq⟩, q⟩
  · obtain ⟨its, rv, p, hz⟩ := I1.list hq
    refine wpAny_pyIter_list p.isList ?_
    refine ⟨s1.heap.objs.size, [s1.heap.objs.size], _, _, H1, rfl, I1.kept (t' := s1.toks) fun b o e => Heap.get?_push_of_some _ e, turn_list a _, ⟨_, Heap.get?_push_size _ rfl, rfl, rfl⟩, fun b hb => ?_, q⟩
    have e : b = s1.heap.objs.size := by simpa using hb
    subst e
    exact I1.fpOk (Nat.le_refl _) (I1.hok.fresh (Nat.le_refl _))
  · obtain ⟨its, rv, p, hz⟩ := I1.tuple hq
    refine wpAny_pyIter_tuple (show s1.heap.IsTuple a its.toArray from p) ?_
    refine ⟨s1.heap.objs.size, [s1.heap.objs.size], _, _, H1, rfl, I1.kept (t' := s1.toks) fun b o e => Heap.get?_push_of_some _ e, turn_tuple a _, ⟨_, Heap.get?_push_size _ rfl, rfl, rfl⟩, fun b hb => ?_, q⟩
    have e : b = s1.heap.objs.size := by simpa using hb
    subst e
    exact I1.fpOk (Nat.le_refl _) (I1.hok.fresh (Nat.le_refl _))
end
end Pc
set_option Elab.async false
set_option linter.all false
set_option maxRecDepth 100000
set_option maxHeartbeats 1000000
set_option autoImplicit false
/-! Pc12: loops, comprehensions -/
namespace Pc
open PySem PySem.Spec PyProof.Rows L2

section
variable {X : Cx} {W : WX} {tg e : Expr} {es : List Expr} {pos : Pos}
theorem im_seq {m : ME} (h : PE X e (tE X.K W m)) : PI X tg e (tI X.K W (mISeq m)) := PI.imp' (pi_seq (pe_d h)) fun σ H Q h => by
  refine PE_t_mono (tI_tD (k := fun d M1 => match seqA M1 d with
    | some xs => .ok (xs.length, gSeq d) M1
    | none => .stuck) h) fun x H1 ⟨d, M1, F1, io1, a, r, p⟩ => ?_
  cases q : seqA M1 d with
  | none => rw [q] at p; exact p.elim
  | some xs =>
    rw [q] at p
    obtain ⟨b, vs, e1, e2, e3⟩ := a.seqA r q
    subst e1
    refine ⟨b, rfl, ?_⟩
    cases ht : Pc.seqT d with
    | some ys =>
      obtain ⟨b', vs', e1', e2', e3'⟩ := a.seqT r ht
      cases e1'
      exact .inr ⟨⟨vs', e2'⟩, p F1 io1 H1 _ a .refl (sqT_it r ht)⟩
    | none =>
      have nt : Pc.seqA M1 d = seqL M1 d := by cases d <;> first | rfl | cases ht
      rw [nt] at q
      obtain ⟨vs', e1', e3'⟩ := sqL_inj a r q
      exact .inl ⟨⟨vs', .of e1'⟩, p F1 io1 H1 _ a .refl (seq_it a r q)⟩
theorem im_rng1 {ms : MDs} {a : Expr} {p : Pos} (hg : Gl X "range") (hm : X.mg "range" = none) (ha : PA X [a] (tDs X.K W ms)) (hn : noStar a = true) : PI X tg (.Call (.Name "range" p) [a] [] pos) (tI X.K W (mIRng1 ms)) :=
  PI.imp' (pi_range1 hg hm ha (by rw [star_cons hn]; rfl)) fun σ H Q h => by
    refine tDs_mono (tI_tDs (k := rng1S) h) fun x H1 ⟨ds, M1, F1, io1, a, r, p⟩ => ?_
    unfold rng1S at p
    split at p
    · rename_i j
      obtain ⟨v, t, e1, e2, e3⟩ := (show ∃ v t, x = v :: t ∧ v = V.int j ∧ RelL X.K F1 io1 [] t from r)
      have e3' : t = [] := e3
      subst e1 e2 e3'
      split at p
      · rename_i hj
        obtain ⟨h1, h2⟩ := okI_iff hj
        exact ⟨_, rfl, h1, h2, p F1 io1 H1 _ a .refl (rng_it 0 _)⟩
      · exact p.elim
    · exact p.elim
theorem im_rng2 {ms : MDs} {a b : Expr} {p : Pos} (hg : Gl X "range") (hm : X.mg "range" = none) (ha : PA X [a, b] (tDs X.K W ms)) (hn : noStar a = true) (hn2 : noStar b = true) : PI X tg (.Call (.Name "range" p) [a, b] [] pos) (tI X.K W (mIRng2 ms)) :=
  PI.imp' (pi_range2 hg hm ha (by rw [star_cons hn, star_cons hn2]; rfl) (by rw [star_cons hn2]; rfl)) fun σ H Q h => by
    refine tDs_mono (tI_tDs (k := rng2S) h) fun x H1 ⟨ds, M1, F1, io1, a, r, p⟩ => ?_
    unfold rng2S at p
    split at p
    · rename_i i j
      obtain ⟨v, t, e1, e2, e3⟩ := (show ∃ v t, x = v :: t ∧ v = V.int i ∧ RelL X.K F1 io1 [.int j] t from r)
      obtain ⟨v', t', e1', e2', e3'⟩ := (show ∃ v' t', t = v' :: t' ∧ v' = V.int j ∧ RelL X.K F1 io1 [] t' from e3)
      have e3'' : t' = [] := e3'
      subst e1 e2 e1' e2' e3''
      split at p
      · rename_i hj
        rw [Bool.and_eq_true] at hj
        obtain ⟨h1, h2⟩ := okI_iff hj.1
        obtain ⟨h3, h4⟩ := okI_iff hj.2
        exact ⟨_, _, rfl, ⟨h1, h2, h3, h4⟩, p F1 io1 H1 _ a .refl (rng_it i _)⟩
      · exact p.elim
    · exact p.elim
end

/-! ### for, while -/
def forL (g : GI) (tg : MG) (body : MS) : Nat → Nat → MS
  | f, k, env, M => match g M k with
    | none => .stuck
    | some none => .nx env M
    | some (some d) => match f with
      | 0 => .stuck
      | f + 1 => match tg d with
        | none => .stuck
        | some bs => match body (putE env bs) M with
          | .nx env2 M2 => forL g tg body f (k + 1) env2 M2
          | .ct env2 M2 => forL g tg body f (k + 1) env2 M2
          | .bk env2 M2 => .nx env2 M2
          | .rt rv M2 => .rt rv M2
          | .exc c ns ds env2 M2 => .exc c ns ds env2 M2
          | .stuck => .stuck
def mFor (mi : MI) (tg : MG) (body : MS) : MS := fun env M => (mi env M).toS env fun g M1 => forL g.2 tg body g.1 0 env M1
def whileL (t : MT) (body : MS) : Nat → MS
  | 0, _, _ => .stuck
  | f + 1, env, M => (t env M).toS env fun b M1 => if b then (match body env M1 with
      | .nx env2 M2 => whileL t body f env2 M2
      | .ct env2 M2 => whileL t body f env2 M2
      | .bk env2 M2 => .nx env2 M2
      | .rt rv M2 => .rt rv M2
      | .exc c ns ds env2 M2 => .exc c ns ds env2 M2
      | .stuck => .stuck) else .nx env M1
section
variable {X : Cx} {W : WX} {tg iter : Expr} {body : List Stmt} {pos : Pos}
theorem tS_tI {K : PySem.W.Frag} {σ : St} {H : Hp} {D : Ends} {m : MI} {k : Sl → Nat × GI → Mem → RS} (h : tS K W (fun env M => (m env M).toS env (k env)) D σ H) :
    tI K W m σ H fun J H1 => ∃ g M1 F1 io1 env, HA K F1 io1 H1 M1 ∧ ER K F1 io1 σ env ∧ ItOk K F1 io1 J g.2 ∧ PostS K W F1 io1 H1 D (k env g M1) := by
  obtain ⟨F, io, env, M, ha, er, p⟩ := h
  refine ⟨F, io, env, M, ha, er, ?_⟩
  dsimp only at p
  cases q : m env M with
  | stuck => rw [q] at p; exact p
  | exc c ns ds M' => rw [q] at p; exact fun F' io' H' dd a b c => p F' io' H' dd σ a b (er.mono b.sub b.ids) c
  | ok d M1 =>
    rw [q] at p
    intro F1 io1 H1 x a b c
    exact ⟨d, M1, F1, io1, env, a, er.mono b.sub b.ids, c, PostS.from_ b p⟩
theorem sm_for {mi : MI} {g : MG} {mb : MS} (hp : PassesOwn (model X.prog X.w) X.A X.env X.xe) (hc : X.calm = true) (hi : PI X tg iter (tI X.K W mi)) (hg : PG X tg (tG X.K g)) (hb : PSs X body (tS X.K W mb))
    (hs : ∀ x, foldedSetIterable iter X.env x = pure x) : PS X (.For tg iter body [] pos) (tS X.K W (mFor mi g mb)) := PS.imp' (ps_for hp hc hi hg hb hs) fun D σ H h => by
  have h1 := tS_tI (k := fun env q M1 => forL q.2 g mb q.1 0 env M1) h
  obtain ⟨F, io, env, M, ha, er, p⟩ := h1
  refine ⟨F, io, env, M, ha, er, ?_⟩
  cases q : mi env M with
  | stuck => rw [q] at p; exact p
  | exc c ns ds M' => rw [q] at p; exact p
  | ok gg M1 =>
    rw [q] at p
    intro F0 io0 H0 J a0 b0 c0
    obtain ⟨gi, M1, F1, io1, env1, ha1, er1, it1, p1⟩ := p F0 io0 H0 J a0 b0 c0
    refine ⟨fun i m σ H => ∃ F io env M, HA X.K F io H M ∧ Ex F1 io1 H0 F io H ∧ ER X.K F io σ env ∧ PostS X.K W F io H D (forL gi.2 g mb m i env M), ⟨gi.1, F1, io1, env1, M1, ha1, .refl, er1, p1⟩, ?_⟩
    rintro i m σ2 H2 ⟨F2, io2, env2, M2, ha2, ex2, er2, p2⟩
    obtain ⟨j1, j2⟩ := it1 F2 io2 H2 M2 ha2 ex2.sub ex2.ids i
    unfold forL at p2
    cases z : gi.2 M2 i with
    | none => rw [z] at p2; exact p2.elim
    | some o =>
      rw [z] at p2
      cases o with
      | none => exact .inl ⟨j1 z, p2 F2 io2 H2 σ2 ha2 .refl er2⟩
      | some d =>
        obtain ⟨j3, j4⟩ := j2 d z
        refine .inr ⟨j3, ?_⟩
        cases m with
        | zero => exact p2.elim
        | succ m =>
          dsimp only at p2
          cases y : g d with
          | none => rw [y] at p2; exact p2.elim
          | some bs =>
            rw [y] at p2
            dsimp only at p2
            refine ⟨fun σ H => ∃ F io env M, HA X.K F io H M ∧ Ex F1 io1 H0 F io H ∧ ER X.K F io σ env ∧ PostS X.K W F io H D (forL gi.2 g mb m (i + 1) env M), fun σ' H' w => ⟨m, Nat.lt_succ_self _, w⟩, fun x H3 yy => ?_⟩
            obtain ⟨F3, ha3, ex3, r3⟩ := j4 x H3 yy
            refine ⟨F3, io2, M2, d, bs, ha3, r3, y, fun us rb => ⟨F3, io2, putE env2 bs, M2, ha3, (er2.mono ex3.sub ex3.ids).puts rb, ?_⟩⟩
            have p3 := PostS.from_ ex3 p2
            have ex13 := ex2.trans ex3
            cases t : mb (putE env2 bs) M2 with
            | stuck => rw [t] at p3; exact p3
            | exc c ns ds env4 M4 => rw [t] at p3; exact p3
            | rt rv M4 => rw [t] at p3; exact p3
            | bk env4 M4 => rw [t] at p3; exact p3
            | ct env4 M4 => rw [t] at p3; exact fun F' io' H' σ' a b c => ⟨F', io', env4, M4, a, ex13.trans b, c, PostS.from_ b p3⟩
            | nx env4 M4 => rw [t] at p3; exact fun F' io' H' σ' a b c => ⟨F', io', env4, M4, a, ex13.trans b, c, PostS.from_ b p3⟩
theorem sm_while {f : Nat} {c : Expr} {t : MT} {mb : MS} (hp : PassesOwn (model X.prog X.w) X.A X.env X.xe) (hc : PT X c (tT X.K W t)) (hb : PSs X body (tS X.K W mb)) : PS X (.While c body [] pos) (tS X.K W (whileL t mb f)) := PS.imp' (ps_while hp hc hb) fun D σ H h => by
  refine ⟨fun m σ H => tS X.K W (whileL t mb m) D σ H, ⟨f, h⟩, ?_⟩
  rintro m σ1 H1 w
  cases m with
  | zero => obtain ⟨F, io, env, M, ha, er, p⟩ := w; exact p.elim
  | succ m =>
    have w2 := tS_tT (k := fun env b M1 => if b then (match mb env M1 with
      | .nx env2 M2 => whileL t mb m env2 M2
      | .ct env2 M2 => whileL t mb m env2 M2
      | .bk env2 M2 => .nx env2 M2
      | .rt rv M2 => .rt rv M2
      | .exc c ns ds env2 M2 => .exc c ns ds env2 M2
      | .stuck => .stuck) else .nx env M1) w
    refine tT_mono w2 fun b H2 ⟨M1, F1, io1, env, a, er, p⟩ => ?_
    cases b with
    | false => exact p F1 io1 H2 σ1 a .refl er
    | true =>
      refine ⟨fun σ H => tS X.K W (whileL t mb m) D σ H, fun σ' H' w => ⟨m, Nat.lt_succ_self _, w⟩, F1, io1, env, M1, a, er, ?_⟩
      simp only [if_true] at p
      cases y : mb env M1 with
      | stuck => rw [y] at p; exact p
      | exc c ns ds env4 M4 => rw [y] at p; exact p
      | rt rv M4 => rw [y] at p; exact p
      | bk env4 M4 => rw [y] at p; exact p
      | ct env4 M4 => rw [y] at p; exact fun F' io' H' σ' a b c => ⟨F', io', env4, M4, a, c, PostS.from_ b p⟩
      | nx env4 M4 => rw [y] at p; exact fun F' io' H' σ' a b c => ⟨F', io', env4, M4, a, c, PostS.from_ b p⟩
end

/-! ### list comprehensions -/
def noX {α : Type} : R α → R α
  | .exc _ _ _ _ => .stuck
  | r => r
def lcL (g : GI) (tg : MG) (t : MT) (e : MD) (vs : List Nat) (env : Sl) : Nat → Nat → Mem → List D → R (List D)
  | f, k, M, acc => match g M k with
    | none => .stuck
    | some none => .ok acc M
    | some (some d) => match f with
      | 0 => .stuck
      | f + 1 => match tg d with
        | none => .stuck
        | some bs => if bs.all (fun b => vs.contains b.1) then (noX (t (putE (wipeS env vs) bs) M)).bind fun b M1 => if b then (noX (e (putE (wipeS env vs) bs) M1)).bind fun d M2 => if acc.length < sizeLine then lcL g tg t e vs env f (k + 1) M2 (acc ++ [d]) else .stuck
          else lcL g tg t e vs env f (k + 1) M1 acc else .stuck
def mLc (mi : MI) (tg : MG) (t : MT) (e : MD) (vs : List Nat) : ME := fun env M => (mi env M).bind fun g M1 => (lcL g.2 tg t e vs env g.1 0 M1 []).bind fun ds M2 => .ok (.own (.lst ds)) M2
abbrev W0 : WX := fun _ _ _ _ => False
theorem tI_tE {K : PySem.W.Frag} {W : WX} {σ : St} {H : Hp} {m : MI} {k : Sl → Nat × GI → Mem → R RV} {Q : VK} (h : tE K W (fun env M => (m env M).bind (k env)) σ H Q) :
    tI K W m σ H fun J H1 => ∃ g M1 F1 io1 env, HA K F1 io1 H1 M1 ∧ ER K F1 io1 σ env ∧ ItOk K F1 io1 J g.2 ∧ PostE K W F1 io1 H1 σ Q (k env g M1) := by
  obtain ⟨F, io, env, M, ha, er, p⟩ := h
  refine ⟨F, io, env, M, ha, er, ?_⟩
  dsimp only at p
  cases q : m env M with
  | stuck => rw [q] at p; exact p
  | exc c ns ds M' => rw [q] at p; exact p
  | ok d M1 =>
    rw [q] at p
    intro F1 io1 H1 x a b c
    exact ⟨d, M1, F1, io1, env, a, er.mono b.sub b.ids, c, PostE.from_ b p⟩
section
variable {K : PySem.W.Frag} {F H F1 H1 : Hp} {io io1 : List Addr} {M : Mem}
/-- a thing that nobody knows of is written -/
theorem HA.poke {D : Addr} {o : HO} (h : HA K F io H M) (hF : F D = none) (hi : D ∉ io) : HA K F io (upd H D o) M := by
  refine ⟨fun b u e => ?_, h.len, h.nd, fun i u e => ?_⟩
  · rw [upd_ne (fun z => by subst z; rw [hF] at e; cases e)]; exact h.sub b u e
  · obtain ⟨c, e1, e2, e3⟩ := h.at_ i u e
    exact ⟨c, e1, e2, e3.mono (Same.refl _) (fun _ _ z => z) (upd_ne fun z => by subst z; exact hi (List.mem_of_getElem? e1))⟩
theorem Ex.poke {D : Addr} {o : HO} (x : Ex F io H F1 io1 H1) (h0 : H D = none) : Ex F io H F1 io1 (upd H1 D o) := by
  refine ⟨x.sub, x.ids, fun b u e n => ?_, x.newF, x.newI, fun b e => ?_⟩
  · rw [upd_ne (ne_of_none e h0)]; exact x.frame b u e n
  · by_cases q : b = D
    · subst q; rw [upd_same]; exact fun z => nomatch z
    · rw [upd_ne q]; exact x.there b e
/-- what happens elsewhere leaves it alone -/
theorem Ex.alone {D : Addr} {o : HO} (x : Ex F io H F1 io1 H1) (e : H D = some o) (hF : F D = none) (hi : D ∉ io) : H1 D = some o ∧ F1 D = none ∧ D ∉ io1 := by
  refine ⟨x.frame D o e hi, ?_, fun z => ?_⟩
  · cases q : F1 D with
    | none => rfl
    | some u =>
      rcases x.newF D u q with w | w
      · rw [hF] at w; cases w
      · rw [e] at w; cases w
  · rcases x.newI D z with w | w
    · exact hi w
    · rw [e] at w; cases w
theorem wipe_idem (σ : St) (vs : List Nat) : wipe (wipe σ vs) vs = wipe σ vs := by
  refine List.ext_getElem? fun k => ?_
  by_cases h : k ∈ vs
  · rw [wipe_put.wipe_in h, wipe_put.wipe_in h, wipe_length]
  · rw [wipe_out h]
end
/-- the loop's state: the list at D is being made -/
def LcSt (K : PySem.W.Frag) (W : WX) (σ : St) (Q : VK) (D : Addr) (F1 : Hp) (io1 : List Addr) (H0 : Hp) (g : GI) (tg : MG) (t : MT) (e : MD) (vs : List Nat) (env : Sl) (i m : Nat) (H : Hp) : Prop :=
  ∃ F io M acc vacc, HA K F io H M ∧ Ex F1 io1 H0 F io H ∧ H D = some (.lst vacc) ∧ F D = none ∧ D ∉ io ∧ RelL K F io acc vacc ∧
    PostE K W F1 io1 H0 σ Q ((lcL g tg t e vs env m i M acc).bind fun ds M2 => .ok (.own (.lst ds)) M2)
theorem lc_imp {K : PySem.W.Frag} {W : WX} {σ : St} {H : Hp} {Q : VK} {mi : MI} {tg : MG} {t : MT} {e : MD} {vs : List Nat} (h : tE K W (mLc mi tg t e vs) σ H Q) : tLc (tI K W mi) (tG K tg) (tT K W0 t) (tD K W0 e) vs σ H Q := by
  have h1 := tI_tE (k := fun env g M1 => (lcL g.2 tg t e vs env g.1 0 M1 []).bind fun ds M2 => .ok (.own (.lst ds)) M2) h
  obtain ⟨F, io, env, M, ha, er, p⟩ := h1
  refine ⟨F, io, env, M, ha, er, ?_⟩
  cases q : mi env M with
  | stuck => rw [q] at p; exact p
  | exc c ns ds M' => rw [q] at p; exact p
  | ok gg M1 =>
    rw [q] at p
    intro F0 io0 H0 J a0 b0 c0 D hD
    obtain ⟨gi, M1, F1, io1, env1, ha1, er1, it1, p1⟩ := p F0 io0 H0 J a0 b0 c0
    have nx : ∀ {Y}, (upd H0 D Y) D = some Y := fun {Y} => upd_same
    refine ⟨fun i m H => LcSt K W σ Q D F1 io1 H0 gi.2 tg t e vs env1 i m H, ⟨gi.1, F1, io1, M1, [], [], ha1.new hD, Ex.new ha1 hD, upd_same, ha1.fnone hD, ha1.notin hD, rfl, p1⟩, ?_⟩
    rintro i m H2 ⟨F2, io2, M2, acc, vacc, ha2, ex2, hd2, fd2, id2, rl2, p2⟩
    obtain ⟨j1, j2⟩ := it1 F2 io2 H2 M2 ha2 ex2.sub ex2.ids i
    unfold lcL at p2
    cases z : gi.2 M2 i with
    | none => rw [z] at p2; exact p2.elim
    | some o =>
      rw [z] at p2
      cases o with
      | none => exact .inl ⟨j1 z, p2 F2 io2 H2 _ ha2 ex2 ⟨D, rfl, hD, fd2, id2, vacc, hd2, rl2⟩⟩
      | some d =>
        obtain ⟨j3, j4⟩ := j2 d z
        refine .inr ⟨j3, ?_⟩
        cases m with
        | zero => exact p2.elim
        | succ m =>
          dsimp only at p2
          cases y : tg d with
          | none => rw [y] at p2; exact p2.elim
          | some bs =>
            rw [y] at p2
            dsimp only at p2
            split at p2
            · rename_i hvs
              refine ⟨fun H => LcSt K W σ Q D F1 io1 H0 gi.2 tg t e vs env1 (i + 1) m H, fun H' w => ⟨m, Nat.lt_succ_self _, w⟩, fun x H3 yy => ?_⟩
              obtain ⟨F3, ha3, ex3, r3⟩ := j4 x H3 yy
              obtain ⟨hd3, fd3, id3⟩ := ex3.alone hd2 fd2 id2
              have ex13 := ex2.trans ex3
              refine ⟨F3, io2, M2, d, bs, ha3, r3, y, fun us rb => ⟨?_, ?_⟩⟩
              · rw [wipe_putV, wipe_idem]
                intro pr hpr
                have : pr.1 ∈ us.map (·.1) := List.mem_map_of_mem hpr
                rw [rb.ix] at this
                obtain ⟨b, hb, eb⟩ := List.mem_map.mp this
                have := List.all_eq_true.mp hvs b hb
                rw [← eb]
                exact List.contains_iff_mem.mp this
              · have er3 := (((er1.mono ex13.sub ex13.ids).wipe vs).puts rb)
                refine ⟨F3, io2, _, M2, ha3, er3, ?_⟩
                cases u : t (putE (wipeS env1 vs) bs) M2 with
                | stuck => rw [u] at p2; exact p2.elim
                | exc c ns ds M4 => rw [u] at p2; exact p2.elim
                | ok b M4 =>
                  rw [u] at p2
                  intro F4 io4 H4 ha4 ex4
                  obtain ⟨hd4, fd4, id4⟩ := ex4.alone hd3 fd3 id3
                  have ex14 := ex13.trans ex4
                  cases b with
                  | false => exact ⟨F4, io4, M4, acc, vacc, ha4, ex14, hd4, fd4, id4, RelL.mono (ex3.trans ex4).sub (ex3.trans ex4).ids _ _ rl2, p2⟩
                  | true =>
                    refine ⟨F4, io4, _, M4, ha4, er3.mono ex4.sub ex4.ids, ?_⟩
                    have p2 : PostE K W F1 io1 H0 σ Q (((noX (e (putE (wipeS env1 vs) bs) M4)).bind fun d M2 => if acc.length < sizeLine then lcL gi.2 tg t e vs env1 m (i + 1) M2 (acc ++ [d]) else .stuck).bind fun ds M2 => .ok (.own (.lst ds)) M2) := p2
                    cases w : e (putE (wipeS env1 vs) bs) M4 with
                    | stuck => rw [w] at p2; exact p2.elim
                    | exc c ns ds M5 => rw [w] at p2; exact p2.elim
                    | ok y5 M5 =>
                      rw [w] at p2
                      intro F5 io5 H5 v5 ha5 ex5 r5
                      obtain ⟨hd5, fd5, id5⟩ := ex5.alone hd4 fd4 id4
                      have p2 : PostE K W F1 io1 H0 σ Q ((if acc.length < sizeLine then lcL gi.2 tg t e vs env1 m (i + 1) M5 (acc ++ [y5]) else .stuck).bind fun ds M2 => .ok (.own (.lst ds)) M2) := p2
                      have ex25 := (ex3.trans ex4).trans ex5
                      have rl5 := RelL.mono ex25.sub ex25.ids _ _ rl2
                      split at p2
                      · rename_i hl
                        refine ⟨vacc, hd5, by rw [← rl5.length]; exact hl, F5, io5, M5, acc ++ [y5], vacc ++ [v5], ha5.poke fd5 id5, Ex.poke (ex14.trans ex5) hD, upd_same, fd5, id5, rl5.append ⟨v5, [], rfl, r5, rfl⟩, p2⟩
                      · exact p2.elim
            · exact p2.elim
section
variable {X : Cx} {W : WX} {elt tg iter : Expr} {ifs : List Expr} {pos : Pos} {scope : Scope} {own : List (Str × Nat)} {mi : MI} {g : MG} {t : MT} {m : ME} {mu : Bool}
theorem pm_lc (hc : X.calm = true) (hN : X.N.Nodup) (hi : PI X tg iter (tI X.K W mi)) (ok : BlkOk X.N X.env.scope scope own)
    (hg : ∀ (s : Shared) (H : Hp) (C : Addr) (cl : List (Str × Addr)) (fp : List Addr), PG (X.blk s H scope (compEnvC scope cl C X.env) fp) tg (tG X.K g)) (ht : ∀ (s : Shared) (H : Hp) (C : Addr) (cl : List (Str × Addr)) (fp : List Addr), PTs (X.blk s H scope (compEnvC scope cl C X.env) fp) ifs (tT X.K W0 t))
    (he : ∀ (s : Shared) (H : Hp) (C : Addr) (cl : List (Str × Addr)) (fp : List Addr), PE (X.blk s H scope (compEnvC scope cl C X.env) fp) elt (tE X.K W0 m)) (hs : ∀ x, foldedSetIterable iter X.env x = pure x) :
    PE X (.ListComp elt [⟨tg, iter, ifs, 0⟩] scope pos) (tE X.K W (mLc mi g t (mA mu m) (own.map (·.2)))) :=
  PE.imp' (pe_lc hc hN hi ok hg ht (fun s H C cl fp => pe_a mu (he s H C cl fp)) hs) fun σ H Q h => lc_imp h
theorem sm_setLc {i : Nat} {y : Str} {py spos : Pos} {mv : Bool} (hc : X.calm = true) (hN : X.N.Nodup) (hy : X.N[i]? = some y) (hyl : X.env.scope.names.lookup y = some .local)
    (hsw : swapsWith (.ListComp elt [⟨tg, iter, ifs, 0⟩] scope pos) (some (.Name y py)) spos.line X.env = pure true) (hi : PI X tg iter (tI X.K W mi)) (ok : BlkOk X.N X.env.scope scope own)
    (hg : ∀ (s : Shared) (H : Hp) (C : Addr) (cl : List (Str × Addr)) (fp : List Addr), PG (X.blk s H scope (compEnvC scope cl C X.env) fp) tg (tG X.K g)) (ht : ∀ (s : Shared) (H : Hp) (C : Addr) (cl : List (Str × Addr)) (fp : List Addr), PTs (X.blk s H scope (compEnvC scope cl C X.env) fp) ifs (tT X.K W0 t))
    (he : ∀ (s : Shared) (H : Hp) (C : Addr) (cl : List (Str × Addr)) (fp : List Addr), PE (X.blk s H scope (compEnvC scope cl C X.env) fp) elt (tE X.K W0 m)) (hs : ∀ x, foldedSetIterable iter X.env x = pure x) :
    PS X (.Assign [.Name y py] (.ListComp elt [⟨tg, iter, ifs, 0⟩] scope pos) spos) (tS X.K W (mSet mv i (mLc mi g t (mA mu m) (own.map (·.2))))) :=
  PS.imp' (ps_setLc hc hN hy hyl hsw hi ok hg ht (fun s H C cl fp => pe_a mu (he s H C cl fp)) hs) fun D σ H h => by
    refine lc_imp (e := mA mu m) (tE_of_tA (m := mLc mi g t (mA mu m) (own.map (·.2))) mv ?_)
    refine (PE_t_mono (tS_tD (k := fun env d M1 => .nx (env.set i (some d)) M1) h)) fun x H1 ⟨d, M1, F1, io1, env, a, b, c, p⟩ => p F1 io1 H1 _ a .refl (b.put c)
def mYes : MT := fun _ M => .ok true M
theorem ptsm_nil : PTs X [] (tT X.K W mYes) := ⟨fun pins s σ H Q I ⟨F, io, env, M, a, b, p⟩ => pts_nil.run pins s σ H Q I (p F io H a .refl)⟩
end
end Pc
set_option Elab.async false
set_option linter.all false
set_option maxRecDepth 100000
set_option maxHeartbeats 1000000
set_option autoImplicit false
/-! Pc13: methods of built-in types -/
namespace Pc
open PySem PySem.Spec PyProof.Rows L2

def vN (M : Mem) : R RV := .ok (.val .non) M
def joinS (d : D) (ds : List D) (M : Mem) : R RV := match d, ds with
  | .str a, [e] => (match (seqA M e).bind strsOf with
    | some ys => if (ys.map (·.length)).sum + ys.length * a.length ≤ 16777216 then .ok (.val (.str (Txt.join a ys))) M else .stuck
    | none => .stuck)
  | _, _ => .stuck
def splitS (d : D) (ds : List D) (M : Mem) : R RV := match d, ds with
  | .str a, [.str b] => if (b.length == 0) = false ∧ a.length + 2 ≤ sizeLine then .ok (.own (.lst ((Txt.split a b).map D.str))) M else .stuck
  | _, _ => .stuck
def appendS (d : D) (ds : List D) (M : Mem) : R RV := match d, ds with
  | .ref i, [e] => (match M[i]? with
    | some (.lst xs) => if xs.length < sizeLine then vN (M.set i (.lst (xs ++ [e]))) else .stuck
    | _ => .stuck)
  | _, _ => .stuck
def popS (d : D) (ds : List D) (M : Mem) : R RV := match d, ds with
  | .ref i, [.int k] => (match M[i]? with
    | some (.lst xs) => if 0 ≤ k ∧ k < xs.length ∧ k < 2 ^ 63 then (match xs[k.toNat]? with
      | some y => .ok (.val y) (M.set i (.lst (xs.eraseIdx k.toNat)))
      | none => .stuck) else .stuck
    | _ => .stuck)
  | .ref i, [] => (match M[i]? with
    | some (.lst xs) => (match xs[xs.length - 1]? with
      | some y => .ok (.val y) (M.set i (.lst xs.dropLast))
      | none => .stuck)
    | _ => .stuck)
  | _, _ => .stuck
def extendS (d : D) (ds : List D) (M : Mem) : R RV := match d, ds with
  | .ref i, [e] => (match M[i]?, seqL M e with
    | some (.lst xs), some ys => if xs.length + ys.length ≤ sizeLine then vN (M.set i (.lst (xs ++ ys))) else .stuck
    | _, _ => .stuck)
  | _, _ => .stuck
/-- a flat thing's own value -/
def flV : D → V
  | .bl b => .bl b
  | .int i => .int i
  | .str x => .str x
  | _ => .non
/-- the first place of a flat thing in flat ones -/
def findD (y : D) : List D → Option Nat
  | [] => none
  | z :: r => if eqV (flV z) (flV y) then some 0 else (findD y r).map (· + 1)
def indexS (d : D) (ds : List D) (M : Mem) : R RV := match ds with
  | [e] => (match seqL M d with
    | some xs => if flatD e && xs.all flatD then (match findD e xs with
      | some j => .ok (.val (.int j)) M
      | none => .stuck) else .stuck
    | none => .stuck)
  | _ => .stuck
section
variable {X : Cx}
theorem RelL.strs {K : PySem.W.Frag} {F : Hp} {io : List Addr} : ∀ ys : List Str, RelL K F io (ys.map D.str) (ys.map V.str)
  | [] => rfl
  | y :: ys => ⟨V.str y, ys.map V.str, rfl, rfl, RelL.strs ys⟩
theorem mb_join : MethB X "join" "str" joinS := ⟨_, F.plainAttrs_str, F.slot_str_join, F.type_str_join, by
  rintro pins s σ H x xs v us Q I rx rxs ⟨F, io, M, d, ds, W, σ', ha, rd, rl, p⟩
  unfold joinS at p
  split at p
  · rename_i a e
    obtain ⟨w, rfl, r1⟩ := relL1 rl
    obtain rfl : x = V.str a := rd
    split at p
    · rename_i ys hy
      cases q : seqA M e with
      | none => rw [q] at hy; cases hy
      | some zs =>
        rw [q] at hy
        obtain ⟨b, vs, rfl, hs, rl2⟩ := ha.seqA r1 q
        have hv := strs_rel rl2 hy
        subst hv
        split at p
        · rename_i hz
          exact mt_join pins s σ H _ _ v us Q I rx rxs ⟨a, b, ys, rfl, rfl, hs, hz, post_val p ha rfl⟩
        · exact p.elim
    · exact p.elim
  · exact p.elim⟩
theorem mb_split : MethB X "split" "str" splitS := ⟨_, F.plainAttrs_str, F.slot_str_split, F.type_str_split, by
  rintro pins s σ H x xs v us Q I rx rxs ⟨F, io, M, d, ds, W, σ', ha, rd, rl, p⟩
  unfold splitS at p
  split at p
  · rename_i a b
    obtain ⟨w, rfl, r1⟩ := relL1 rl
    obtain rfl : x = V.str a := rd
    obtain rfl : w = V.str b := r1
    split at p
    · rename_i hz
      exact mt_split pins s σ H _ _ v us Q I rx rxs ⟨a, b, rfl, rfl, hz.1, hz.2, fun q hq => post_lst p ha (RelL.strs _) hq⟩
    · exact p.elim
  · exact p.elim⟩
theorem HA.mlst {K : PySem.W.Frag} {F H : Hp} {io : List Addr} {M : Mem} {i : Nat} {x : V} {xs : List D} (ha : HA K F io H M) (rd : Rel K F io (.ref i) x) (h : M[i]? = some (.lst xs)) : ∃ a vs, x = .ref a ∧ io[i]? = some a ∧ H a = some (.lst vs) ∧ RelL K F io xs vs ∧ F a = none := by
  obtain ⟨a, e, q⟩ := (show ∃ a, x = V.ref a ∧ io[i]? = some a from rd)
  obtain ⟨b, e1, e2, vs, e3, e4⟩ := ha.at_ i _ h
  rw [q] at e1
  cases e1
  exact ⟨a, vs, e, q, e3, e4, e2⟩
theorem mb_append : MethB X "append" "list" appendS := ⟨_, F.plainAttrs_list, F.slot_list_append, F.type_list_append, by
  rintro pins s σ H x xs v us Q I rx rxs ⟨F, io, M, d, ds, W, σ', ha, rd, rl, p⟩
  unfold appendS at p
  split at p
  · rename_i i e
    obtain ⟨w, rfl, r1⟩ := relL1 rl
    split at p
    · rename_i ys hM
      obtain ⟨a, vs, rfl, hi, hH, rl2, hF⟩ := ha.mlst rd hM
      split at p
      · rename_i hz
        have mr : MR X.K F io (upd H a (.lst (vs ++ [w]))) a (.lst (ys ++ [e])) := ⟨_, upd_same, rl2.append ⟨w, [], rfl, r1, rfl⟩⟩
        obtain ⟨h1, h2⟩ := ha.write hi mr
        exact mt_append pins s σ H _ _ v us Q I rx rxs ⟨a, vs, w, rfl, rfl, hH, by rw [← rl2.length]; exact hz, p F io _ _ h1 h2 rfl⟩
      · exact p.elim
    · exact p.elim
  · exact p.elim⟩
theorem RelL.erase {K : PySem.W.Frag} {F : Hp} {io : List Addr} : ∀ (n : Nat) {ds : List D} {vs : List V}, RelL K F io ds vs → RelL K F io (ds.eraseIdx n) (vs.eraseIdx n)
  | n, [], _, h => by rw [show _ = [] from h]; exact rfl
  | 0, d :: ds, _, h => by obtain ⟨v, r, rfl, h1, h2⟩ := (show ∃ v r, _ = v :: r ∧ Rel K F io d v ∧ RelL K F io ds r from h); exact h2
  | n + 1, d :: ds, _, h => by obtain ⟨v, r, rfl, h1, h2⟩ := (show ∃ v r, _ = v :: r ∧ Rel K F io d v ∧ RelL K F io ds r from h); exact ⟨v, _, rfl, h1, RelL.erase n h2⟩
theorem RelL.dropLast {K : PySem.W.Frag} {F : Hp} {io : List Addr} {ds : List D} {vs : List V} (h : RelL K F io ds vs) : RelL K F io ds.dropLast vs.dropLast := by
  rw [List.dropLast_eq_take, List.dropLast_eq_take, ← h.length]
  exact RelL.take _ h
theorem mb_pop : MethB X "pop" "list" popS := ⟨_, F.plainAttrs_list, F.slot_list_pop, F.type_list_pop, by
  rintro pins s σ H x xs v us Q I rx rxs ⟨F, io, M, d, ds, W, σ', ha, rd, rl, p⟩
  unfold popS at p
  split at p
  · rename_i i k
    obtain ⟨w, rfl, r1⟩ := relL1 rl
    obtain rfl : w = V.int k := r1
    split at p
    · rename_i ys hM
      obtain ⟨a, vs, rfl, hi, hH, rl2, hF⟩ := ha.mlst rd hM
      split at p
      · rename_i hz
        obtain ⟨z1, z2, z3⟩ := hz
        split at p
        · rename_i y hy
          obtain ⟨yv, hyv, ry⟩ := rl2.get hy
          have mr : MR X.K F io (upd H a (.lst (vs.eraseIdx k.toNat))) a (.lst (ys.eraseIdx k.toNat)) := ⟨_, upd_same, RelL.erase _ rl2⟩
          obtain ⟨h1, h2⟩ := ha.write hi mr
          refine mt_popAt pins s σ H _ _ v us Q I rx rxs ⟨a, vs, k, k.toNat, yv, rfl, rfl, hH, by omega, z3, ?_, hyv, p F io _ _ h1 h2 ry⟩
          unfold seqIndex?
          have hl := rl2.length
          have e1 : (if k < 0 then k + (vs.length : Int) else k) = k := if_neg (by omega)
          simp only [e1]
          rw [if_pos (by simp; omega)]
        · exact p.elim
      · exact p.elim
    · exact p.elim
  · rename_i i
    obtain rfl : xs = [] := rl
    split at p
    · rename_i ys hM
      obtain ⟨a, vs, rfl, hi, hH, rl2, hF⟩ := ha.mlst rd hM
      split at p
      · rename_i y hy
        obtain ⟨yv, hyv, ry⟩ := rl2.get hy
        have mr : MR X.K F io (upd H a (.lst vs.dropLast)) a (.lst ys.dropLast) := ⟨_, upd_same, rl2.dropLast⟩
        obtain ⟨h1, h2⟩ := ha.write hi mr
        exact mt_pop pins s σ H _ _ v us Q I rx rxs ⟨a, vs, yv, rfl, rfl, hH, by rw [← rl2.length]; exact hyv, p F io _ _ h1 h2 ry⟩
      · exact p.elim
    · exact p.elim
  · exact p.elim⟩
theorem mb_extend : MethB X "extend" "list" extendS := ⟨_, F.plainAttrs_list, F.slot_list_extend, F.type_list_extend, by
  rintro pins s σ H x xs v us Q I rx rxs ⟨F, io, M, d, ds, W, σ', ha, rd, rl, p⟩
  unfold extendS at p
  split at p
  · rename_i i e
    obtain ⟨w, rfl, r1⟩ := relL1 rl
    split at p
    · rename_i ys zs hM he
      obtain ⟨a, vs, rfl, hi, hH, rl2, hF⟩ := ha.mlst rd hM
      obtain ⟨b, us', rfl, hH', rl3⟩ := ha.lst r1 he
      split at p
      · rename_i hz
        have mr : MR X.K F io (upd H a (.lst (vs ++ us'))) a (.lst (ys ++ zs)) := ⟨_, upd_same, rl2.append rl3⟩
        obtain ⟨h1, h2⟩ := ha.write hi mr
        exact mt_extend pins s σ H _ _ v us Q I rx rxs ⟨a, b, vs, us', rfl, rfl, hH, hH', by rw [← rl2.length, ← rl3.length]; exact hz, p F io _ _ h1 h2 rfl⟩
      · exact p.elim
    · exact p.elim
  · exact p.elim⟩
theorem flV_rel {K : PySem.W.Frag} {F : Hp} {io : List Addr} {d : D} {v : V} (f : flatD d = true) (r : Rel K F io d v) : v = flV d := by
  cases d <;> first | exact r | (exact absurd f (by decide)) | (cases f)
theorem flVs_rel {K : PySem.W.Frag} {F : Hp} {io : List Addr} : ∀ {ds : List D} {vs : List V}, ds.all flatD = true → RelL K F io ds vs → vs = ds.map flV
  | [], _, _, r => r
  | d :: ds, _, f, r => by
    obtain ⟨v, t, rfl, h1, h2⟩ := (show ∃ v t, _ = v :: t ∧ Rel K F io d v ∧ RelL K F io ds t from r)
    rw [List.all_cons, Bool.and_eq_true] at f
    rw [flV_rel f.1 h1, flVs_rel f.2 h2]
    rfl
theorem flV_flat {d : D} (f : flatD d = true) : flatV (flV d) = true := by cases d <;> first | rfl | (cases f)
theorem findD_some {y : D} : ∀ {xs : List D} {j : Nat}, findD y xs = some j → ∃ z, xs[j]? = some z ∧ eqV (flV z) (flV y) = true ∧ ∀ m z', m < j → xs[m]? = some z' → eqV (flV z') (flV y) = false
  | [], _, h => by cases h
  | x :: r, j, h => by
    unfold findD at h
    split at h
    · rename_i hx
      cases h
      exact ⟨x, rfl, hx, fun m z' hm => absurd hm (Nat.not_lt_zero _)⟩
    · rename_i hx
      cases q : findD y r with
      | none => rw [q] at h; cases h
      | some k =>
        rw [q] at h
        cases h
        obtain ⟨z, h1, h2, h3⟩ := findD_some q
        refine ⟨z, h1, h2, fun m z' hm hz => ?_⟩
        cases m with
        | zero => cases hz; exact Bool.eq_false_iff.mpr hx
        | succ m => exact h3 m z' (Nat.lt_of_succ_lt_succ hm) hz
theorem mb_index : MethB X "index" "list" indexS := ⟨_, F.plainAttrs_list, F.slot_list_index, F.type_list_index, by
  rintro pins s σ H x xs v us Q I rx rxs ⟨F, io, M, d, ds, W, σ', ha, rd, rl, p⟩
  unfold indexS at p
  split at p
  · rename_i e
    obtain ⟨w, rfl, r1⟩ := relL1 rl
    split at p
    · rename_i ys hy
      obtain ⟨a, vs, rfl, hH, rl2⟩ := ha.lst rd hy
      split at p
      · rename_i hf
        rw [Bool.and_eq_true] at hf
        split at p
        · rename_i j hj
          obtain ⟨z, h1, h2, h3⟩ := findD_some hj
          have ew := flV_rel hf.1 r1
          have ev := flVs_rel hf.2 rl2
          subst ew ev
          refine mt_index pins s σ H _ _ v us Q I rx rxs ⟨a, _, _, j, flV z, rfl, rfl, .of hH, flV_flat hf.1, ?_, by rw [List.getElem?_map, h1]; rfl, h2, fun m z' hm hz => ?_, post_val p ha rfl⟩
          · rw [List.all_map]
            exact List.all_eq_true.mpr fun d hd => flV_flat (List.all_eq_true.mp hf.2 d hd)
          · rw [List.getElem?_map] at hz
            cases q : ys[m]? with
            | none => rw [q] at hz; cases hz
            | some z0 => rw [q] at hz; cases hz; exact h3 m z0 hm q
        · exact p.elim
      · exact p.elim
    · exact p.elim
  · exact p.elim⟩
end
/-- the methods that are known -/
def methAlts (name : Str) : Alts :=
  if name = ("join" : Str) then [("str", joinS)]
  else if name = ("split" : Str) then [("str", splitS)]
  else if name = ("append" : Str) then [("list", appendS)]
  else if name = ("pop" : Str) then [("list", popS)]
  else if name = ("extend" : Str) then [("list", extendS)]
  else if name = ("index" : Str) then [("list", indexS)]
  else []
theorem methAlts_ok {X : Cx} {name : Str} : ∀ T f, (methAlts name).lookup T = some f → MethB X name T f := by
  intro T f h
  have one : ∀ {n : Str} {U : String} {g : D → List D → Mem → R RV}, MethB X n U g → ([(U, g)] : Alts).lookup T = some f → MethB X n T f := by
    intro n U g m e
    rw [List.lookup_cons] at e
    split at e
    · rename_i q
      cases e
      rw [beq_iff_eq.mp q]
      exact m
    · cases e
  unfold methAlts at h
  split at h
  · rename_i e; subst e; exact one mb_join h
  split at h
  · rename_i e; subst e; exact one mb_split h
  split at h
  · rename_i e; subst e; exact one mb_append h
  split at h
  · rename_i e; subst e; exact one mb_pop h
  split at h
  · rename_i e; subst e; exact one mb_extend h
  split at h
  · rename_i e; subst e; exact one mb_index h
  cases h
end Pc
set_option Elab.async false
set_option linter.all false
set_option maxRecDepth 100000
set_option maxHeartbeats 1000000
set_option autoImplicit false
/-! Pc14: dict displays, stores -/
namespace Pc
open PySem PySem.Spec PyProof.Rows L2

section
variable {κ : Type} [DecidableEq κ]
def repD : List κ → List D → κ → D → List D
  | k' :: ks, d' :: ds, k, d => (if k' = k then d else d') :: repD ks ds k d
  | _, ds, _, _ => ds
def putD (ks : List κ) (ds : List D) (k : κ) (d : D) : List κ × List D := if k ∈ ks then (ks, repD ks ds k d) else (ks ++ [k], ds ++ [d])
theorem rep_rel {K : PySem.W.Frag} {F : Hp} {io : List Addr} {k : κ} {d : D} {v : V} (r : Rel K F io d v) : ∀ {kvs : List (κ × V)} {ds : List D}, RelL K F io ds (kvs.map (·.2)) →
    RelL K F io (repD (kvs.map (·.1)) ds k d) ((kvs.map fun kv => if kv.1 = k then (kv.1, v) else kv).map (·.2))
  | [], ds, h => by
    cases ds with
    | nil => rfl
    | cons d ds => obtain ⟨_, _, e, _⟩ := (show ∃ v r, [] = v :: r ∧ Rel K F io d v ∧ RelL K F io ds r from h); cases e
  | p :: kvs, [], h => by cases (show (p :: kvs).map (·.2) = [] from h)
  | p :: kvs, d' :: ds, h => by
    obtain ⟨v', r', e, h1, h2⟩ := (show ∃ v r, (p :: kvs).map (·.2) = v :: r ∧ Rel K F io d' v ∧ RelL K F io ds r from h)
    rw [List.map_cons] at e
    injection e with e1 e2
    subst e1 e2
    rw [List.map_cons, List.map_cons, List.map_cons, repD]
    by_cases hk : p.1 = k
    · rw [if_pos hk, if_pos hk]
      exact ⟨_, _, rfl, r, rep_rel r h2⟩
    · rw [if_neg hk, if_neg hk]
      exact ⟨_, _, rfl, h1, rep_rel r h2⟩
theorem put_rel {K : PySem.W.Frag} {F : Hp} {io : List Addr} {k : κ} {d : D} {v : V} (r : Rel K F io d v) {kvs : List (κ × V)} {ks : List κ} {ds : List D} (e : kvs.map (·.1) = ks) (h : RelL K F io ds (kvs.map (·.2))) :
    (putK kvs k v).map (·.1) = (putD ks ds k d).1 ∧ RelL K F io (putD ks ds k d).2 ((putK kvs k v).map (·.2)) := by
  subst e
  unfold putK putD
  have hm : ((kvs.any fun kv => decide (kv.1 = k)) = true) ↔ k ∈ kvs.map (·.1) := by
    rw [List.any_eq_true]
    constructor
    · rintro ⟨p, hp, e⟩
      rw [← of_decide_eq_true e]
      exact List.mem_map_of_mem hp
    · intro h
      obtain ⟨p, hp, e⟩ := List.mem_map.mp h
      exact ⟨p, hp, decide_eq_true e⟩
  by_cases hk : k ∈ kvs.map (·.1)
  · rw [if_pos (hm.mpr hk), if_pos hk]
    refine ⟨?_, rep_rel r h⟩
    rw [List.map_map]
    refine List.map_congr_left fun p hp => ?_
    show (if p.1 = k then (p.1, v) else p).1 = p.1
    split <;> rfl
  · rw [if_neg (fun z => hk (hm.mp z)), if_neg hk, List.map_append, List.map_append]
    exact ⟨rfl, h.append ⟨v, [], rfl, r, rfl⟩⟩
end
/-! ### displays -/
def mPairs : List (ME × ME) → Sl → Mem → R (List (D × D))
  | [], _, M => .ok [] M
  | (a, b) :: r, env, M => (mD a env M).bind fun k M1 => (mD b env M1).bind fun v M2 => (mPairs r env M2).bind fun ps M3 => .ok ((k, v) :: ps) M3
def RelP (K : PySem.W.Frag) (F : Hp) (io : List Addr) : List (D × D) → List (V × V) → Prop
  | [], us => us = []
  | (a, b) :: r, us => ∃ x y t, us = (x, y) :: t ∧ Rel K F io a x ∧ Rel K F io b y ∧ RelP K F io r t
def PostPs (K : PySem.W.Frag) (W : WX) (F : Hp) (io : List Addr) (H : Hp) (σ : St) (Q : List (V × V) → Hp → Prop) : R (List (D × D)) → Prop
  | .ok ds M' => ∀ F' io' H' vs, HA K F' io' H' M' → Ex F io H F' io' H' → RelP K F' io' ds vs → Q vs H'
  | .exc c ns ds M' => ∀ F' io' H' dd, HA K F' io' H' M' → Ex F io H F' io' H' → ExcAt K F' io' H H' ns ds dd → W (.ref (He.ga K c)) dd σ H'
  | .stuck => False
section
variable {K : PySem.W.Frag} {W : WX} {σ : St}
theorem PostPs.from_ {F H F1 H1 : Hp} {io io1 : List Addr} {Q : List (V × V) → Hp → Prop} {r : R (List (D × D))} (x : Ex F io H F1 io1 H1) (h : PostPs K W F io H σ Q r) : PostPs K W F1 io1 H1 σ Q r := by
  cases r with
  | ok rv M' => exact fun F' io' H' v a b c => h F' io' H' v a (x.trans b) c
  | exc c ns ds M' => exact fun F' io' H' dd a b c => h F' io' H' dd a (x.trans b) (c.from_ x)
  | stuck => exact h
theorem tP_bind {m : MD} {k : D → Mem → R (List (D × D))} {Q : List (V × V) → Hp → Prop} {F H : Hp} {io : List Addr} {env : Sl} {M : Mem} (ha : HA K F io H M) (er : ER K F io σ env) (p : PostPs K W F io H σ Q ((m env M).bind k)) :
    tD K W m σ H fun x H1 => ∃ d M1 F1 io1, HA K F1 io1 H1 M1 ∧ Ex F io H F1 io1 H1 ∧ Rel K F1 io1 d x ∧ PostPs K W F1 io1 H1 σ Q (k d M1) := by
  refine ⟨F, io, env, M, ha, er, ?_⟩
  cases q : m env M with
  | stuck => rw [q] at p; exact p
  | exc c ns ds M' => rw [q] at p; exact p
  | ok d M1 =>
    rw [q] at p
    intro F1 io1 H1 x a b c
    exact ⟨d, M1, F1, io1, a, b, c, PostPs.from_ b p⟩
/-- the pairs, one behind the other -/
theorem tPairs_of {env : Sl} : ∀ (l : List (ME × ME)) {F H : Hp} {io : List Addr} {M : Mem} (Q : List (V × V) → Hp → Prop), HA K F io H M → ER K F io σ env → PostPs K W F io H σ Q (mPairs l env M) →
    tPairs (l.map fun p => (tD K W (mD p.1), tD K W (mD p.2))) σ H Q
  | [], F, H, io, M, Q, ha, er, p => p F io H [] ha .refl rfl
  | (a, b) :: r, F, H, io, M, Q, ha, er, p => by
    refine PE_t_mono (tP_bind (k := fun k M1 => (mD b env M1).bind fun v M2 => (mPairs r env M2).bind fun ps M3 => .ok ((k, v) :: ps) M3) ha er p) fun x H1 ⟨d, M1, F1, io1, a1, e1, r1, p1⟩ => ?_
    refine PE_t_mono (tP_bind (k := fun v M2 => (mPairs r env M2).bind fun ps M3 => .ok ((d, v) :: ps) M3) a1 (er.mono e1.sub e1.ids) p1) fun y H2 ⟨d2, M2, F2, io2, a2, e2, r2, p2⟩ => ?_
    refine tPairs_of r _ a2 (er.mono (e1.trans e2).sub (e1.trans e2).ids) ?_
    cases q : mPairs r env M2 with
    | stuck => rw [q] at p2; exact p2
    | exc c ns ds M' => rw [q] at p2; exact p2
    | ok ps M3 =>
      rw [q] at p2
      intro F3 io3 H3 vs a3 e3 r3
      exact p2 F3 io3 H3 _ a3 e3 ⟨x, y, vs, rfl, Rel.mono (e2.trans e3).sub (e2.trans e3).ids _ _ r1, Rel.mono e3.sub e3.ids _ _ r2, r3⟩
def keyPs : List (D × D) → Option (List Key × List D)
  | [] => some ([], [])
  | (k, v) :: r => match k.key, keyPs r with
    | some j, some (ks, ds) => some (j :: ks, v :: ds)
    | _, _ => none
def mergeD : List Key → List D → List Key → List D → List Key × List D
  | ks, ds, k :: ks', d :: ds' => mergeD (putD ks ds k d).1 (putD ks ds k d).2 ks' ds'
  | ks, ds, _, _ => (ks, ds)
def mDict (l : List (ME × ME)) : ME := fun env M => (mPairs l env M).bind fun ps M1 => match keyPs ps with
  | some (ks, ds) => if ps.length ≤ 15 then .ok (.own (.dk (mergeD [] [] ks ds).1 (mergeD [] [] ks ds).2)) M1 else .stuck
  | none => .stuck
theorem keyPs_rel {F : Hp} {io : List Addr} : ∀ {ps : List (D × D)} {vs : List (V × V)} {ks : List Key} {ds : List D}, RelP K F io ps vs → keyPs ps = some (ks, ds) →
    ∃ kvs : List (Key × V), vs = kvs.map (fun kv => (kV kv.1, kv.2)) ∧ kvs.map (·.1) = ks ∧ RelL K F io ds (kvs.map (·.2)) ∧ kvs.length = ps.length
  | [], vs, ks, ds, r, e => by cases e; exact ⟨[], r, rfl, rfl, rfl⟩
  | (k, v) :: ps, vs, ks, ds, r, e => by
    obtain ⟨x, y, t, rfl, r1, r2, r3⟩ := (show ∃ x y t, vs = (x, y) :: t ∧ Rel K F io k x ∧ Rel K F io v y ∧ RelP K F io ps t from r)
    unfold keyPs at e
    split at e
    · rename_i j ks' ds' e1 e2
      cases e
      obtain ⟨kvs, h1, h2, h3, h4⟩ := keyPs_rel r3 e2
      refine ⟨(j, y) :: kvs, ?_, ?_, ⟨y, _, rfl, r2, h3⟩, by rw [List.length_cons, List.length_cons, h4]⟩
      · rw [key_rel r1 e1, h1]; rfl
      · rw [List.map_cons, h2]
    · cases e
theorem merge_rel {F : Hp} {io : List Addr} : ∀ {more : List (Key × V)} {ks' : List Key} {ds' : List D} {kvs : List (Key × V)} {ks : List Key} {ds : List D}, more.map (·.1) = ks' → RelL K F io ds' (more.map (·.2)) → kvs.map (·.1) = ks → RelL K F io ds (kvs.map (·.2)) →
    (mergeK kvs more).map (·.1) = (mergeD ks ds ks' ds').1 ∧ RelL K F io (mergeD ks ds ks' ds').2 ((mergeK kvs more).map (·.2))
  | [], ks', ds', kvs, ks, ds, e1, r1, e2, r2 => by
    cases e1
    cases ds' <;> exact ⟨e2, r2⟩
  | p :: more, ks', ds', kvs, ks, ds, e1, r1, e2, r2 => by
    cases e1
    cases ds' with
    | nil => cases (show (p :: more).map (·.2) = [] from r1)
    | cons d ds' =>
      obtain ⟨v', r', e, h1, h2⟩ := (show ∃ v r, (p :: more).map (·.2) = v :: r ∧ Rel K F io d v ∧ RelL K F io ds' r from r1)
      rw [List.map_cons] at e
      injection e with e3 e4
      subst e3 e4
      obtain ⟨g1, g2⟩ := put_rel (k := p.1) h1 e2 r2
      have z := merge_rel (more := more) (ks' := more.map (·.1)) (ds' := ds') rfl h2 g1 g2
      exact z
end
section
variable {X : Cx} {W : WX} {pos : Pos}
inductive PMs (X : Cx) (W : WX) : List (Option Expr) → List Expr → List (ME × ME) → Prop where
  | nil : PMs X W [] [] []
  | cons {k v : Expr} {ks : List (Option Expr)} {vs : List Expr} {a b : ME} {l : List (ME × ME)} (hk : PE X k (tE X.K W a)) (hv : PE X v (tE X.K W b)) (hr : PMs X W ks vs l) : PMs X W (some k :: ks) (v :: vs) ((a, b) :: l)
theorem PMs.pps {ks : List (Option Expr)} {vs : List Expr} {l : List (ME × ME)} (h : PMs X W ks vs l) : PPs X pos ks vs (l.map fun p => (tD X.K W (mD p.1), tD X.K W (mD p.2))) := by
  induction h with
  | nil => exact pps_nil
  | cons hk hv hr ih => exact pps_cons (pe_d hk) (pe_d hv) ih
theorem PMs.all {ks : List (Option Expr)} {vs : List Expr} {l : List (ME × ME)} (h : PMs X W ks vs l) : ks.all (·.isSome) = true ∧ ks.length = vs.length := by
  induction h with
  | nil => exact ⟨rfl, rfl⟩
  | cons hk hv hr ih => exact ⟨by rw [List.all_cons, ih.1]; rfl, by rw [List.length_cons, List.length_cons, ih.2]⟩
theorem pm_dict {ks : List (Option Expr)} {vs : List Expr} {l : List (ME × ME)} (h : PMs X W ks vs l) (h0 : ks ≠ []) (h15 : ks.length ≤ 15) : PE X (.Dict ks vs pos) (tE X.K W (mDict l)) := PE.imp' (pe_disp h.pps h.all.1 h.all.2 h0 h15) fun σ H Q ⟨F, io, env, M, ha, er, p⟩ => by
  intro a hn
  refine tPairs_of l _ (ha.new (o := .dK []) hn) er ?_
  have x0 : Ex F io H F io (upd H a (.dK [])) := Ex.new ha hn
  have fa := ha.fnone hn
  have na := ha.notin hn
  unfold mDict at p
  cases q : mPairs l env M with
  | stuck => rw [q] at p; exact p
  | exc c ns ds M' => rw [q] at p; exact fun F' io' H' dd a b c => p F' io' H' dd a (x0.trans b) (c.from_ x0)
  | ok ps M1 =>
    rw [q] at p
    intro F1 io1 H1 vs a1 e1 r1
    obtain ⟨hd1, fd1, id1⟩ := e1.alone upd_same fa na
    refine ⟨hd1, ?_⟩
    dsimp only [R.bind] at p
    split at p
    · rename_i ks ds hk
      obtain ⟨kvs, g1, g2, g3, g4⟩ := keyPs_rel r1 hk
      split at p
      · rename_i hl
        refine ⟨kvs, g1, by rw [g4]; exact hl, ?_⟩
        obtain ⟨m1, m2⟩ := merge_rel g2 g3 (kvs := []) (ks := []) (ds := []) rfl rfl
        exact p F1 io1 _ _ (a1.poke fd1 id1) (Ex.poke (x0.trans e1) hn) ⟨a, rfl, hn, fd1, id1, _, upd_same, m1, m2⟩
      · exact p.elim
    · exact p.elim
def mDNew (t : Bool) : ME := fun _ M => .ok (.own (if t then .dt [] [] else .dk [] [])) M
theorem pm_dnew {t : Bool} : PE X (.Dict [] [] pos) (tE X.K W (mDNew t)) := by
  cases t with
  | true => exact PE.imp' pe_dnewT fun σ H Q ⟨F, io, env, M, ha, er, p⟩ a hn => post_own p ha hn ⟨[], upd_same, rfl, rfl⟩
  | false => exact PE.imp' pe_dnewK fun σ H Q ⟨F, io, env, M, ha, er, p⟩ a hn => post_own p ha hn ⟨[], upd_same, rfl, rfl⟩
end

/-! ### stores -/
def setS (d i v : D) (M : Mem) : Option Mem := match d with
  | .ref n => (match M[n]? with
    | some (.lst xs) => (match i with
      | .int k => (match ixN xs.length k with
        | some j => some (M.set n (.lst (xs.set j v)))
        | none => none)
      | _ => none)
    | some (.dk ks ds) => (match i.key with
      | some k => if ks.length < sizeLine then some (M.set n (.dk (putD ks ds k v).1 (putD ks ds k v).2)) else none
      | none => none)
    | some (.dt ks ds) => (match i.keyT with
      | some k => if ks.length < sizeLine then some (M.set n (.dt (putD ks ds k v).1 (putD ks ds k v).2)) else none
      | none => none)
    | _ => none)
  | _ => none
/-- what is asked of a store by values -/
def rSet (K : PySem.W.Frag) : TSet := fun o i v H Q => ∃ F io M d1 d2 d3 M', HA K F io H M ∧ Rel K F io d1 o ∧ Rel K F io d2 i ∧ Rel K F io d3 v ∧ setS d1 d2 d3 M = some M' ∧ ∀ F' io' H', HA K F' io' H' M' → Ex F io H F' io' H' → Q H'
section
variable {X : Cx}
theorem set_any (hu : X.A.units + 1 < cLine) : PSet X (rSet X.K) := by
  rintro pins s σ H o i v ov iv u Q I ro ri rv ⟨F, io, M, d1, d2, d3, M', ha, r1, r2, r3, e, q⟩
  unfold setS at e
  split at e
  · rename_i n
    obtain ⟨a, eo, hi⟩ := (show ∃ a, o = V.ref a ∧ io[n]? = some a from r1)
    subst eo
    split at e
    · rename_i xs hM
      obtain ⟨b, e1, e2, vs, e3, e4⟩ := ha.at_ n _ hM
      rw [hi] at e1
      cases e1
      split at e
      · rename_i k
        obtain rfl : i = V.int k := r2
        split at e
        · rename_i j hj
          cases e
          have mr : MR X.K F io (upd H a (.lst (vs.set j v))) a (.lst (xs.set j d3)) := ⟨_, upd_same, RelL.set j e4 r3⟩
          obtain ⟨h1, h2⟩ := ha.write hi mr
          exact set_list pins s σ H _ _ v ov iv u Q I ro ri rv ⟨a, vs, k, j, rfl, rfl, e3, by rw [← e4.length]; exact hj, q F io _ h1 h2⟩
        · cases e
      · cases e
    · rename_i ks ds hM
      obtain ⟨b, e1, e2, kvs, e3, e4, e5⟩ := ha.at_ n _ hM
      rw [hi] at e1
      cases e1
      split at e
      · rename_i k hk
        split at e
        · rename_i hl
          cases e
          obtain ⟨g1, g2⟩ := put_rel (k := k) r3 e4 e5
          have mr : MR X.K F io (upd H a (.dK (putK kvs k v))) a (.dk (putD ks ds k d3).1 (putD ks ds k d3).2) := ⟨_, upd_same, g1, g2⟩
          obtain ⟨h1, h2⟩ := ha.write hi mr
          have ei := key_rel r2 hk
          subst ei
          cases ro
          exact d_setItem hu I (DPut.k e3 (by rw [← List.length_map (f := (·.1)), e4]; exact hl)) ri rv fun s' I' => ⟨_, I', q F io _ h1 h2⟩
        · cases e
      · cases e
    · rename_i ks ds hM
      obtain ⟨b, e1, e2, kvs, e3, e4, e5⟩ := ha.at_ n _ hM
      rw [hi] at e1
      cases e1
      split at e
      · rename_i k hk
        split at e
        · rename_i hl
          cases e
          obtain ⟨g1, g2⟩ := put_rel (k := k) r3 e4 e5
          have mr : MR X.K F io (upd H a (.dT (putK kvs k v))) a (.dt (putD ks ds k d3).1 (putD ks ds k d3).2) := ⟨_, upd_same, g1, g2⟩
          obtain ⟨h1, h2⟩ := ha.write hi mr
          obtain ⟨b, ei, hb⟩ := ha.keyT r2 hk
          subst ei
          cases ro
          exact d_setItem hu I (DPut.t e3 hb (by rw [← List.length_map (f := (·.1)), e4]; exact hl)) ri rv fun s' I' => ⟨_, I', q F io _ h1 h2⟩
        · cases e
      · cases e
    · cases e
  · cases e
end
/-- o[i] = e -/
def mSub (mu : Bool) (me mo mi : ME) : MS := fun env M => (mA mu me env M).toS env fun v M1 => (mD mo env M1).toS env fun o M2 => (mD mi env M2).toS env fun i M3 => match setS o i v M3 with
  | some M4 => .nx env M4
  | none => .stuck
section
variable {X : Cx} {W : WX} {o i value : Expr} {pos pos' : Pos} {mo mi me : ME} {mu : Bool}
theorem tS_bind {K : PySem.W.Frag} {σ : St} {D : Ends} {m : MD} {k : Pc.D → Mem → RS} {F H : Hp} {io : List Addr} {env : Sl} {M : Mem} (ha : HA K F io H M) (er : ER K F io σ env) (p : PostS K W F io H D ((m env M).toS env k)) :
    tD K W m σ H fun x H1 => ∃ d M1 F1 io1, HA K F1 io1 H1 M1 ∧ Ex F io H F1 io1 H1 ∧ Rel K F1 io1 d x ∧ PostS K W F1 io1 H1 D (k d M1) := by
  refine ⟨F, io, env, M, ha, er, ?_⟩
  cases q : m env M with
  | stuck => rw [q] at p; exact p
  | exc c ns ds M' => rw [q] at p; exact fun F' io' H' dd a b c => p F' io' H' dd σ a b (er.mono b.sub b.ids) c
  | ok d M1 =>
    rw [q] at p
    intro F1 io1 H1 x a b c
    exact ⟨d, M1, F1, io1, a, b, c, PostS.from_ b p⟩
theorem sm_sub (hu : X.A.units + 1 < cLine) (hv : PE X value (tE X.K W me)) (ho : PE X o (tE X.K W mo)) (hi : PE X i (tE X.K W mi)) (hs : swapsWith value (some (.Subscript o i pos')) pos.line X.env = pure false) :
    PS X (.Assign [.Subscript o i pos'] value pos) (tS X.K W (mSub mu me mo mi)) := by
  refine ⟨fun pins s σ H D I ⟨F, io, env, M, ha, er, p⟩ => ?_⟩
  refine wpAny_Assign_Subscript (thn ((pe_a mu hv).run pins s σ H _ I (tS_bind (k := fun v M1 => (mD mo env M1).toS env fun o M2 => (mD mi env M2).toS env fun i M3 => match setS o i v M3 with
    | some M4 => .nx env M4
    | none => .stuck) ha er p)) fun r s1 ⟨v, H1, I1, rv, d1, M1, F1, io1, a1, x1, r1, p1⟩ => ?_) hs
  refine thn ((pe_d ho).run pins s1 σ H1 _ I1 (tS_bind (k := fun o M2 => (mD mi env M2).toS env fun i M3 => match setS o i d1 M3 with
    | some M4 => .nx env M4
    | none => .stuck) a1 (er.mono x1.sub x1.ids) p1)) fun u s2 ⟨x, H2, I2, rx, d2, M2, F2, io2, a2, x2, r2, p2⟩ => ?_
  refine thn ((pe_d hi).run pins s2 σ H2 _ I2 (tS_bind (k := fun i M3 => match setS d2 i d1 M3 with
    | some M4 => .nx env M4
    | none => .stuck) a2 (er.mono (x1.trans x2).sub (x1.trans x2).ids) p2)) fun iv s3 ⟨y, H3, I3, ry, d3, M3, F3, io3, a3, x3, r3, p3⟩ => ?_
  cases q : setS d2 d3 d1 M3 with
  | none => rw [q] at p3; exact p3.elim
  | some M4 =>
    rw [q] at p3
    have x23 := x2.trans x3
    refine thn (set_any hu pins s3 σ H3 x y v u iv r (fun H' => D.nx σ H') I3 rx ry rv ⟨F3, io3, M3, d2, d3, d1, M4, a3, Rel.mono x3.sub x3.ids _ _ r2, r3, Rel.mono x23.sub x23.ids _ _ r1, q, fun F' io' H' a b => ?_⟩) fun _ s4 ⟨H4, I4, q4⟩ => ⟨σ, H4, I4, q4⟩
    have xx := (x1.trans x23).trans b
    exact p3 F' io' H' σ a b (er.mono xx.sub xx.ids)
end
end Pc
set_option Elab.async false
set_option linter.all false
set_option maxRecDepth 100000
set_option maxHeartbeats 1000000
set_option autoImplicit false
/-! Pc15: attributes, tuple targets, augmented assignments, f-strings -/
namespace Pc
open PySem PySem.Spec PyProof.Rows L2

/-! ### which stores CPython swaps -/
def isNm (sc : Scope) (line : Nat) : Expr → Option Str
  | .Name id pos => if sc.names.lookup id == some .local && pos.line == line then some id else none
  | _ => none
/-- none: not known -/
def swO (sc : Scope) (ts vs : List Expr) : Option (Option (List Str)) :=
  if !(ts.length == 2 || ts.length == 3) || vs.length != ts.length then some none
  else if !vs.all noStar then some none else
    let names := ts.filterMap (isNm sc ((ts.head?.map (·.pos.line)).getD 0))
    if names.length != ts.length || names.eraseDups.length != names.length then some none
    else if vs.all (foldedForSure 8) then some none
    else if vs.all (constantsAlone 8) then none else some (some names)
theorem sw_eq {env : PySem.Env} {ts vs : List Expr} {k k2 : Nat} {p p2 : Pos} {r : Option (List Str)} (hk : env.scope.kind = .function) (h : swO env.scope ts vs = some r) : swappedStores [.Tuple ts k p] (.Tuple vs k2 p2) env = pure r := by
  have hb : env.blockKind = .function := by unfold Env.blockKind; rw [hk]; rfl
  have hst : ∀ l : List Expr, (l.any fun | .Starred .. => true | _ => false) = !l.all noStar := fun l => by
    induction l with
    | nil => rfl
    | cons v l ih =>
      rw [List.any_cons, ih, List.all_cons]
      cases v <;> simp [noStar]
  have hnm : (fun e : Expr => match e with
    | .Name id pos => if env.kindOf id == some .local && pos.line == (ts.head?.map (·.pos.line)).getD 0 then some id else none
    | _ => none) = isNm env.scope ((ts.head?.map (·.pos.line)).getD 0) := by
    funext e
    cases e <;> rfl
  have e0 : swappedStores [.Tuple ts k p] (.Tuple vs k2 p2) env = (if (!(ts.length == 2 || ts.length == 3) || vs.length != ts.length || env.blockKind != .function) = true then pure none else
    if (vs.any fun | .Starred .. => true | _ => false) = true then pure none else
    if ((ts.filterMap fun e : Expr => match e with
      | .Name id pos => if env.kindOf id == some .local && pos.line == (ts.head?.map (·.pos.line)).getD 0 then some id else none
      | _ => none).length != ts.length || (ts.filterMap fun e : Expr => match e with
      | .Name id pos => if env.kindOf id == some .local && pos.line == (ts.head?.map (·.pos.line)).getD 0 then some id else none
      | _ => none).eraseDups.length != (ts.filterMap fun e : Expr => match e with
      | .Name id pos => if env.kindOf id == some .local && pos.line == (ts.head?.map (·.pos.line)).getD 0 then some id else none
      | _ => none).length) = true then pure none else
    if vs.all (foldedForSure 8) = true then pure none else
    if vs.all (constantsAlone 8) = true then (do unsupported "assign.tuple-of-constant-expressions:order-of-the-stores"; pure (some (ts.filterMap fun e : Expr => match e with
      | .Name id pos => if env.kindOf id == some .local && pos.line == (ts.head?.map (·.pos.line)).getD 0 then some id else none
      | _ => none))) else pure (some (ts.filterMap fun e : Expr => match e with
      | .Name id pos => if env.kindOf id == some .local && pos.line == (ts.head?.map (·.pos.line)).getD 0 then some id else none
      | _ => none))) := rfl
  rw [e0, hb, hst, hnm]
  unfold swO at h
  have e1 : (ScopeKind.function != ScopeKind.function) = false := rfl
  rw [e1, Bool.or_false]
  by_cases c1 : (!(ts.length == 2 || ts.length == 3) || vs.length != ts.length) = true
  · rw [if_pos c1] at h
    cases h
    rw [if_pos c1]
  rw [if_neg c1] at h ⊢
  by_cases c2 : (!vs.all noStar) = true
  · rw [if_pos c2] at h
    cases h
    rw [if_pos c2]
  rw [if_neg c2] at h ⊢
  dsimp only at h
  split at h
  · rename_i c3
    cases h
    rw [if_pos c3]
  · rename_i c3
    rw [if_neg c3]
    split at h
    · rename_i c4
      cases h
      rw [if_pos c4]
    · rename_i c4
      rw [if_neg c4]
      split at h
      · cases h
      · rename_i c5
        rw [if_neg c5]
        cases h
        rfl
theorem sw_one {env : PySem.Env} {ts : List Expr} {e : Expr} {k : Nat} {p : Pos} (h : (match e with | .Tuple .. => false | _ => true) = true) : swappedStores [.Tuple ts k p] e env = pure none := by
  cases e <;> first | rfl | cases h
/-! ### comprehensions that stand alone at a store -/
def noComp : Expr → Bool
  | .ListComp .. => false
  | .SetComp .. => false
  | .DictComp .. => false
  | _ => true
theorem sw_no {e : Expr} (h : noComp e = true) (t : Option Expr) (l : Nat) (env : PySem.Env) : swapsWith e t l env = pure false := by
  cases e <;> first | rfl | cases h
def notNm : Expr → Bool
  | .Name .. => false
  | _ => true
theorem sw_tg {e t : Expr} (h : notNm t = true) (l : Nat) (env : PySem.Env) : swapsWith e (some t) l env = pure false := by
  cases e <;> first | rfl | (cases t <;> first | rfl | cases h)
def swB (sc scope : Scope) (t : Str) (p pv : Pos) : Bool := sc.names.lookup t == some .local && p.line == pv.line && !(scope.names.any fun (n, k) => n == t && (k == .local || k == .cell))
theorem sw_lc {elt : Expr} {gs : List Comprehension} {scope : Scope} {pv p : Pos} {t : Str} {l : Nat} {env : PySem.Env} (hk : env.scope.kind = .function) : swapsWith (.ListComp elt gs scope pv) (some (.Name t p)) l env = pure (swB env.scope scope t p pv) := by
  have hb : env.blockKind = .function := by unfold Env.blockKind; rw [hk]; rfl
  unfold swapsWith swB
  simp only [hb, Expr.pos]
  rfl

/-! ### a, b = x, y -/
def mPar (is : List Nat) (ms : MDs) : MS := fun env M => (ms env M).toS env fun ds M1 => if ds.length = is.length then .nx (putE env (is.zip ds)) M1 else .stuck
section
variable {X : Cx} {W : WX} {pos : Pos}
theorem zip_relB {K : PySem.W.Frag} {F : Hp} {io : List Addr} : ∀ {is : List Nat} {ds : List D} {vs : List V}, RelL K F io ds vs → RelB K F io (is.zip ds) (is.zip vs)
  | [], _, _, _ => rfl
  | i :: is, [], vs, h => by rw [show vs = [] from h]; exact rfl
  | i :: is, d :: ds, vs, h => by
    obtain ⟨v, r, rfl, h1, h2⟩ := (show ∃ v r, vs = v :: r ∧ Rel K F io d v ∧ RelL K F io ds r from h)
    exact ⟨v, is.zip r, rfl, h1, zip_relB h2⟩
theorem sm_par2 {i j : Nat} {x y : Str} {a b : Expr} {ms : MDs} {px py pt : Pos} {kt k2 pt2} (hc : X.calm = true) (hN : X.N.Nodup) (hi : X.N[i]? = some x) (hj : X.N[j]? = some y) (hij : i ≠ j)
    (hx : X.env.scope.names.lookup x = some .local) (hy : X.env.scope.names.lookup y = some .local) (ha : PA X [a, b] (tDs X.K W ms))
    (hw : swappedStores [.Tuple [.Name x px, .Name y py] kt pt] (.Tuple [a, b] k2 pt2) X.env = pure (some [x, y])) :
    PS X (.Assign [.Tuple [.Name x px, .Name y py] kt pt] (.Tuple [a, b] k2 pt2) pos) (tS X.K W (mPar [i, j] ms)) := PS.imp' (ps_par hc hN hi hj hij hx hy ha hw rfl) fun D σ H h => by
  refine tDs_mono (tS_tDs (k := fun env ds M1 => if ds.length = 2 then .nx (putE env ([i, j].zip ds)) M1 else .stuck) h) fun vs H1 ⟨ds, M1, F1, io1, env, a1, er, rl, p⟩ => ?_
  split at p
  · rename_i hl
    obtain ⟨d1, d2, rfl⟩ : ∃ d1 d2, ds = [d1, d2] := by
      cases ds with
      | nil => cases hl
      | cons d1 ds => cases ds with
        | nil => cases hl
        | cons d2 ds => cases ds with
          | nil => exact ⟨d1, d2, rfl⟩
          | cons _ _ => simp at hl
    obtain ⟨v, u, rfl, h1, h2⟩ := relL2 rl
    exact ⟨v, u, rfl, p F1 io1 H1 _ a1 .refl (ER.puts (us := [(i, v), (j, u)]) er (zip_relB (is := [i, j]) rl))⟩
  · exact p.elim
theorem sm_par3 {i j l : Nat} {x y z : Str} {a b c : Expr} {ms : MDs} {px py pz pt : Pos} {kt k2 pt2} (hc : X.calm = true) (hN : X.N.Nodup) (hi : X.N[i]? = some x) (hj : X.N[j]? = some y) (hl : X.N[l]? = some z) (hij : i ≠ j) (hil : i ≠ l) (hjl : j ≠ l)
    (hx : X.env.scope.names.lookup x = some .local) (hy : X.env.scope.names.lookup y = some .local) (hz : X.env.scope.names.lookup z = some .local) (ha : PA X [a, b, c] (tDs X.K W ms))
    (hw : swappedStores [.Tuple [.Name x px, .Name y py, .Name z pz] kt pt] (.Tuple [a, b, c] k2 pt2) X.env = pure (some [x, y, z])) :
    PS X (.Assign [.Tuple [.Name x px, .Name y py, .Name z pz] kt pt] (.Tuple [a, b, c] k2 pt2) pos) (tS X.K W (mPar [i, j, l] ms)) := PS.imp' (ps_par3 hc hN hi hj hl hij hil hjl hx hy hz ha hw rfl) fun D σ H h => by
  refine tDs_mono (tS_tDs (k := fun env ds M1 => if ds.length = 3 then .nx (putE env ([i, j, l].zip ds)) M1 else .stuck) h) fun vs H1 ⟨ds, M1, F1, io1, env, a1, er, rl, p⟩ => ?_
  split at p
  · rename_i hl
    obtain ⟨d1, d2, d3, rfl⟩ : ∃ d1 d2 d3, ds = [d1, d2, d3] := by
      cases ds with
      | nil => cases hl
      | cons d1 ds => cases ds with
        | nil => cases hl
        | cons d2 ds => cases ds with
          | nil => cases hl
          | cons d3 ds => cases ds with
            | nil => exact ⟨d1, d2, d3, rfl⟩
            | cons _ _ => simp at hl
    obtain ⟨v, t, rfl, h1, h2⟩ := (show ∃ v t, vs = v :: t ∧ Rel X.K F1 io1 d1 v ∧ RelL X.K F1 io1 [d2, d3] t from rl)
    obtain ⟨u, w, rfl, h3, h4⟩ := relL2 h2
    exact ⟨v, u, w, rfl, p F1 io1 H1 _ a1 .refl (ER.puts (us := [(i, v), (j, u), (l, w)]) er (zip_relB (is := [i, j, l]) rl))⟩
  · exact p.elim
/-- a target of any form -/
def mAsg (g : MG) (m : ME) : MS := fun env M => (mD m env M).toS env fun d M1 => match g d with
  | some bs => .nx (putE env bs) M1
  | none => .stuck
theorem sm_asg {tg e : Expr} {g : MG} {m : ME} (h : PE X e (tE X.K W m)) (hg : PG X tg (tG X.K g)) (hs : swapsWithSole [tg] e pos.line X.env = pure false) (hw : swappedStores [tg] e X.env = pure none) (hn : noStar tg = true) :
    PS X (.Assign [tg] e pos) (tS X.K W (mAsg g m)) := PS.imp' (ps_asg (pe_d h) hg hs hw (by rw [each_cons hn]; rfl)) fun D σ H h => by
  refine PE_t_mono (tS_tD (k := fun env d M1 => match g d with
    | some bs => .nx (putE env bs) M1
    | none => .stuck) h) fun x H1 ⟨d, M1, F1, io1, env, a, b, c, p⟩ => ?_
  cases q : g d with
  | none => rw [q] at p; exact p.elim
  | some bs =>
    rw [q] at p
    exact ⟨F1, io1, M1, d, bs, a, c, q, fun us r => p F1 io1 H1 _ a .refl (b.puts r)⟩
end

/-! ### o.f = e -/
def putN : List Str → List D → Str → D → List Str × List D
  | n :: ns, d :: ds, f, v => if n = f then (n :: ns, v :: ds) else (n :: (putN ns ds f v).1, d :: (putN ns ds f v).2)
  | _, _, f, v => ([f], [v])
theorem putN_rel {K : PySem.W.Frag} {F : Hp} {io : List Addr} {f : Str} {d : D} {v : V} (r : Rel K F io d v) : ∀ {fs : List (Str × V)} {ns : List Str} {ds : List D}, fs.map (·.1) = ns → RelL K F io ds (fs.map (·.2)) →
    (putF f v fs).map (·.1) = (putN ns ds f d).1 ∧ RelL K F io (putN ns ds f d).2 ((putF f v fs).map (·.2))
  | [], ns, ds, e, h => by
    cases e
    cases ds with
    | nil => exact ⟨rfl, v, [], rfl, r, rfl⟩
    | cons d' ds => obtain ⟨_, _, e, _⟩ := (show ∃ v r, [] = v :: r ∧ Rel K F io d' v ∧ RelL K F io ds r from h); cases e
  | (g, x) :: fs, ns, ds, e, h => by
    cases e
    cases ds with
    | nil => cases (show ((g, x) :: fs).map (·.2) = [] from h)
    | cons d' ds =>
      obtain ⟨v', r', e, h1, h2⟩ := (show ∃ v r, ((g, x) :: fs).map (·.2) = v :: r ∧ Rel K F io d' v ∧ RelL K F io ds r from h)
      rw [List.map_cons] at e
      injection e with e1 e2
      subst e1 e2
      rw [putF, List.map_cons, putN]
      by_cases hg : g = f
      · rw [if_pos hg, if_pos hg]
        exact ⟨rfl, v, _, rfl, r, h2⟩
      · rw [if_neg hg, if_neg hg]
        obtain ⟨g1, g2⟩ := putN_rel r (fs := fs) (ns := fs.map (·.1)) (ds := ds) rfl h2
        exact ⟨by rw [List.map_cons, g1], x, _, rfl, h1, g2⟩
def setF (ok : Str → Str → Bool) (f : Str) (d v : D) (M : Mem) : Option Mem := match d with
  | .ref n => (match M[n]? with
    | some (.ins c ns ds) => if ok c f = true ∧ ns.length < 1000 then some (M.set n (.ins c (putN ns ds f v).1 (putN ns ds f v).2)) else none
    | _ => none)
  | _ => none
def mFld (mu : Bool) (ok : Str → Str → Bool) (f : Str) (me mo : ME) : MS := fun env M => (mA mu me env M).toS env fun v M1 => (mD mo env M1).toS env fun o M2 => match setF ok f o v M2 with
  | some M3 => .nx env M3
  | none => .stuck
section
variable {X : Cx} {W : WX} {o value : Expr} {pos pos' : Pos} {mo me : ME} {mu : Bool} {f : Str} {ok : Str → Str → Bool}
theorem sm_fld (hok : ∀ c, ok c f = true → Cls X.K (He.ga X.K c) ∧ NoAttr X.K (He.ga X.K c) f) (hv : PE X value (tE X.K W me)) (ho : PE X o (tE X.K W mo)) (hs : swapsWith value (some (.Attribute o f pos')) pos.line X.env = pure false) :
    PS X (.Assign [.Attribute o f pos'] value pos) (tS X.K W (mFld mu ok f me mo)) := PS.imp' (ps_fld (pe_d ho) (pe_a mu hv) hs) fun D σ H ⟨F, io, env, M, ha, er, p⟩ => by
  refine PE_t_mono (tS_bind (k := fun v M1 => (mD mo env M1).toS env fun o M2 => match setF ok f o v M2 with
    | some M3 => .nx env M3
    | none => .stuck) ha er p) fun y H1 ⟨d1, M1, F1, io1, a1, x1, r1, p1⟩ => ?_
  refine PE_t_mono (tS_bind (k := fun o M2 => match setF ok f o d1 M2 with
    | some M3 => .nx env M3
    | none => .stuck) a1 (er.mono x1.sub x1.ids) p1) fun x H2 ⟨d2, M2, F2, io2, a2, x2, r2, p2⟩ => ?_
  cases q : setF ok f d2 d1 M2 with
  | none => rw [q] at p2; exact p2.elim
  | some M3 =>
    rw [q] at p2
    unfold setF at q
    split at q
    · rename_i n
      obtain ⟨a, eo, hi⟩ := (show ∃ a, x = V.ref a ∧ io2[n]? = some a from r2)
      split at q
      · rename_i c ns ds hM
        obtain ⟨b, e1, e2, dx, fvs, e3, e4, e5⟩ := a2.at_ n _ hM
        rw [hi] at e1
        cases e1
        split at q
        · rename_i hh
          cases q
          obtain ⟨c1, c2⟩ := hok c hh.1
          obtain ⟨g1, g2⟩ := putN_rel (f := f) (Rel.mono x2.sub x2.ids _ _ r1) e4 e5
          have mr : MR X.K F2 io2 (upd H2 a (.ins (He.ga X.K c) dx (putF f y fvs))) a (.ins c (putN ns ds f d1).1 (putN ns ds f d1).2) := ⟨dx, _, upd_same, g1, g2⟩
          obtain ⟨h1, h2⟩ := a2.write hi mr
          have xx := (x1.trans x2).trans h2
          exact ⟨a, _, dx, fvs, eo, e3, c1, c2, by rw [← List.length_map (f := (·.1)), e4]; exact hh.2, p2 F2 io2 _ σ h1 h2 (er.mono xx.sub xx.ids)⟩
        · cases q
      · cases q
    · cases q
end
end Pc
set_option Elab.async false
set_option linter.all false
set_option maxRecDepth 100000
set_option maxHeartbeats 1000000
set_option autoImplicit false
/-! Pc16: the program's text, read -/
namespace Pc
open PySem PySem.Spec PyProof.Rows L2

section
variable {X : Cx} {W : WX}
theorem chain_imp {op op' : CmpOp} {K : PySem.W.Frag} {W : WX} {m1 m2 m3 : ME} {σ : St} {H : Hp} {Q : VK} (h : tE K W (mChain op op' m1 m2 m3) σ H Q) : tChain (rBin K (cmpS op)) (rBin K (cmpS op')) (tD K W (mD m1)) (tD K W (mD m2)) (tD K W (mD m3)) σ H Q := by
    refine tD_then (k := fun d1 env M1 => (mD m2 env M1).bind fun d2 M2 => (cmpS op d1 d2 M2).bind fun rv M3 => match rv with
      | .val (.bl true) => (mD m3 env M3).bind fun d3 M4 => cmpS op' d2 d3 M4
      | .val (.bl false) => vB false M3
      | _ => .stuck) h fun d1 M1 F1 io1 H1 x env a1 er1 r1 p1 => ?_
    refine ⟨F1, io1, env, M1, a1, er1, ?_⟩
    cases q2 : mD m2 env M1 with
    | stuck => rw [q2] at p1; exact p1
    | exc c ns ds M' => rw [q2] at p1; exact p1
    | ok d2 M2 =>
      rw [q2] at p1
      intro F2 io2 H2 y a2 b2 r2
      have p2 := PostE.from_ b2 p1
      dsimp only [R.bind] at p2
      refine ⟨F2, io2, M2, d1, d2, W, σ, a2, Rel.mono b2.sub b2.ids _ _ r1, r2, ?_⟩
      cases q3 : cmpS op d1 d2 M2 with
      | stuck => rw [q3] at p2; exact p2
      | exc c ns ds M' => exact (cmpS_exc q3).elim
      | ok rv M3 =>
        rw [q3] at p2
        obtain ⟨em, k, rfl⟩ := cmpS_mem q3
        subst em
        intro F3 io3 H3 z a3 b3 r3
        have p3 := PostE.from_ b3 p2
        refine ⟨k, r3, ?_⟩
        cases k with
        | false => rw [if_neg Bool.false_ne_true]; exact post_val p3 a3 rfl
        | true =>
          rw [if_pos rfl]
          refine ⟨F3, io3, env, M3, a3, (er1.mono b2.sub b2.ids).mono b3.sub b3.ids, ?_⟩
          dsimp only [R.bind] at p3
          cases q4 : mD m3 env M3 with
          | stuck => rw [q4] at p3; exact p3
          | exc c ns ds M' => rw [q4] at p3; exact p3
          | ok d3 M4 =>
            rw [q4] at p3
            intro F4 io4 H4 w a4 b4 r4
            exact ⟨F4, io4, M4, d2, d3, W, σ, a4, Rel.mono b4.sub b4.ids _ _ (Rel.mono b3.sub b3.ids _ _ r2), r4, PostE.from_ b4 p3⟩
theorem tm_chain {op op' : CmpOp} {a b c : Expr} {m1 m2 m3 : ME} {pos : Pos} (hu : X.A.units + 65 < cLine) (ha : PE X a (tE X.K W m1)) (hb : PE X b (tE X.K W m2)) (hc : PE X c (tE X.K W m3)) (hm : lastMarks [op, op'] [b, c] = false) :
    PT X (.Compare a [op, op'] [b, c] pos) (tT X.K W (mBl (mChain op op' m1 m2 m3))) :=
  PT.imp' (pt_chain (cmp_any hu op) (cmp_any hu op') (pe_d ha) (pe_d hb) (pe_d hc) hm) fun σ H Q h => chain_imp (tE_bl h)
end
end Pc
set_option Elab.async false
set_option linter.all false
set_option maxRecDepth 100000
set_option maxHeartbeats 2000000
set_option autoImplicit false
/-! PcX1: own exceptions whose __init__ says super().__init__(..) -/
namespace Pc
open PySem PySem.Spec PyProof.Rows L2

abbrev veI : String := "ValueError.__init__"
section
variable {X : Cx} {pins : List (Addr × Obj)} {σ : L2.St} {H : Hp} {s : Shared} {a C u : Addr} {E : Value → Shared → Prop} {Q : Value → Shared → Prop} {us : List Value}
/-- ValueError.__init__ bound to the exception that is being made -/
theorem mwinit_ok (T : OexC X.K C) (I : Inv X pins σ H s) (hu : s.heap.get? u = some (PySem.W.kxs_mw veI a)) (e : H a = some (exo a C none)) (hl : us.length ≤ sizeLine) (h : ∀ s', Inv X pins σ H s' → Q .none s') :
    wpAny (model X.prog X.w) X.A (call (.ref u) us) Q E s := by
  obtain ⟨nm, q, N, bs, bm, sn, sub, ab, col, dd, k0, k1, k2, k3, k5, hC, hbm⟩ := T.cls
  obtain ⟨t1, ho⟩ := exo_at I.hok e
  have hC' := I.kIn _ _ hC
  have fin : ∀ h' : Heap, (∀ b o, b ≠ a → s.heap.get? b = some o → h'.get? b = some o) → h'.get? a = some (PySem.W.excRec (.ref C) s.heap.objs.size none .none .none (.bool false)) → Q .none { s with heap := h' } := fun h' k hx => by
    have J := I.write (t' := s.toks) (x := a) (e := a) (o := exo a C none) (by rw [e]; exact True.intro) (.inl rfl) k ⟨_, hx⟩ (exo_ok hx)
    have eu : upd H a (exo a C none) = H := by
      funext b
      by_cases hb : b = a
      · rw [hb, upd_same, e]
      · rw [upd_ne hb]
    rw [eu] at J
    exact h _ J
  obtain ⟨hh, g, d, tk, os⟩ := s
  refine wpAny_call (codeAny_of_tree ?_)
  show wpAny _ X.A.in1 (callAny (.ref u) ⟨us, []⟩) _ _ _
  simp only [callAny]
  refine wpAny_bind (wpAny_load hu ?_)
  simp only [PySem.W.kxs_mw, show (Value.type "method-wrapper" == Value.type "method" || Value.type "method-wrapper" == Value.type "builtin_function_or_method" || Value.type "method-wrapper" == Value.type "method-wrapper") = true by decide, if_true]
  refine PySem.W.KFB.if_so (by decide) ?_
  refine wpAny_bind (PySem.W.check_bound_init F.excBase_ValueError.toExcCallFacts hC' ho rfl ?_)
  refine wpAny_bind (wpAny_pure (wpAny_pure ?_))
  refine ⟨PySem.plainId_quiet F.excBase_ValueError.init.plain _, codeAny_builtin F.excBase_ValueError.initEntry ?_⟩
  exact PySem.W.exc_init_tree (cls := .ref C) (t0 := t1) (dv := none) (c2 := .none) (c3 := .none) (b4 := .bool false) ho hl fun h' k hx _ => fin h' k hx
end

/-- what must be seen of the class at C and of its __init__ at f -/
structure SupC (P : Program) (K : PySem.W.Frag) (C f : Addr) (fd : FuncData) (cda cc : Addr) (sf : Str) : Prop where
  T : OexC K C
  fn : ∃ oc od osl, K.lookup f = some ⟨oc, od, .func fd, osl⟩
  head : ∃ ar, (fd.params.posonlyargs ++ fd.params.args).head? = some ar ∧ ar.arg = sf
  code : ∃ ccl cdd vs ccs file tf, K.lookup cda = some ⟨ccl, cdd, .fields vs, ccs⟩ ∧ vs[2]? = some (.str file tf) ∧ ((P.main.file : Str) == file) = true
  cell : ∃ cl cld csl, K.lookup cc = some ⟨cl, cld, .cell (some (.ref C)), csl⟩
  sub : PySem.W.mroIn K C (.ref C) = some true
  op : PySem.W.nsIn K cStatics "thirdparty.any" = some none
  sup : PySem.W.ks_superIn K C C "__init__" = some (some (.builtin veI))
  ve : PySem.W.subIn K (.ref C) (.type "ValueError") = some true
  top : (P.main.scope.names.lookup ("super" : Str)).isSome = false
  nosup : PySem.W.nsIn K mainGlobals "super" = some none
section
variable {X : Cx} {pins : List (Addr × Obj)} {σ : L2.St} {H : Hp} {s : Shared} {a C f cda cc : Addr} {fd : FuncData} {self : Str}
theorem cls_of_oex {K : PySem.W.Frag} (T : OexC K C) : ∃ cd, PySem.W.clsIn K C = some cd ∧ ∃ o, K.lookup C = some o ∧ o.data = .cls cd := by
  obtain ⟨nm, q, N, bs, bm, sn, sub, ab, col, dd, k0, k1, k2, k3, k5, hC, hbm⟩ := T.cls
  exact ⟨_, by unfold PySem.W.clsIn; rw [hC] <;> rfl, _, hC, rfl⟩
theorem eval_sup {o : Expr} {es : List Expr} {name : Str} {apos pos : Pos} (hn : es.all noStar = true) (hl : es.length < 30) (hline : (apos.endLine == pos.line) = true) :
    eval (.Call (.Attribute o name apos) es [] pos) X.env = (do
      let ov ← attributeBase o name X.env (eval o X.env)
      standAt apos.atName
      let (f, first) ← holding [ov] (getMethod ov name (do return (← importBound o X.env).getD true))
      callWith pos f first (backTo pos (starEach es X.env)) []) := by
  rw [arm_eval_Call]
  have hform := few_of hn hl X.env pos
  have hpos : methodCallPos true o X.env apos pos = pure pos := by unfold methodCallPos; simp [hline]
  unfold methodCall
  rw [hform, hpos]
  rfl
/-- super().__init__(e) -/
theorem sup_stmt {p0 p1 p2 p3 p4 : Pos} {arg : Expr} {te : TE} {body : List Stmt} {Q : Hp → Prop} (S : SupC X.prog X.K C f fd cda cc self) (I : Inv X pins σ H s)
    (hks : X.env.kindOf "super" = some .globalImplicit) (hkc : X.env.kindOf "__class__" = some .free) (hcl : X.env.cells.lookup ("__class__" : Str) = some cc) (hfu : X.env.func = some f) (hco : X.env.code = .ref cda) (hka : X.env.kindOf self = some .local)
    (e : H a = some (exo a C none)) (hN : X.N[0]? = some self) (hσ : σ[0]? = some (some (.ref a))) (ha : PE X arg te)
    (q : te σ H fun _ H1 => H1 a = some (exo a C none) ∧ Q H1)
    (hna : noStar arg = true) (hline : (p2.endLine == p3.line) = true) (hint : interactive X.env = false) :
    _root_.PySem.wpAt (model X.prog X.w) X.A (.func body X.env) (exec (.Expr (.Call (.Attribute (.Call (.Name "super" p0) [] [] p1) "__init__" p2) [arg] [] p3) p4) X.env)
      (fun fl s' => fl = .next ∧ ∃ H', Inv X pins σ H' s' ∧ Q H') X.xe s := by
  have KX := I.kIn
  have hst := star_cons hna [] X.env
  obtain ⟨oc, od, osl, hf⟩ := S.fn
  obtain ⟨ar, hp, har⟩ := S.head
  obtain ⟨ccl, cdd, vs, ccs, file, tf, hcode, hvs, hfile⟩ := S.code
  obtain ⟨cl, cld, csl, hcell⟩ := S.cell
  obtain ⟨cd, hD, oD, hD1, hD2⟩ := cls_of_oex S.T
  obtain ⟨m, hns, hloc⟩ := I.loc
  obtain ⟨u0, ru, lk⟩ := hloc 0 self (.ref a) hN hσ (.inl hka)
  obtain rfl : u0 = Value.ref a := ru
  have hm : m self = some (.ref a) := by
    rcases lk with ⟨_, z⟩ | ⟨z, _⟩
    · exact z
    · rw [hka] at z
      rcases z with z | z <;> cases z
  obtain ⟨mb, h1, h2⟩ := I.mod.blt
  obtain ⟨t1, ho⟩ := exo_at I.hok e
  have hxC : a ≠ C := by
    rintro rfl
    have z := KX _ _ hD1
    rw [ho] at z
    cases z
    cases hD2
  refine PySem.ks_wpAt_Expr_any (PySem.ks_wpAt_MethodCall (PySem.ks_wpAt_super_base hks hkc (by decide) hfu (KX _ _ hf) rfl hp hco (KX _ _ hcode) rfl hvs hfile S.top ?_) (eval_sup (by rw [List.all_cons, hna]; rfl) (by show 1 < 30; decide) hline)) hint
  refine PySem.W.ks_loadName_global I.ok.kind hks (Calls.loadGlobal_builtin (by rw [I.ok.glob]; exact I.mod.glob.keeps I.bk) (PySem.W.mg_none_of I.mod.kin I.mod.glob S.nosup) (by rw [I.ok.blt]; exact h1.keeps I.bk) ((h2 _ (by decide)).trans (by decide +kernel)) ⟨rfl, ?_⟩)
  refine wpAny_loadName_free I.ok.kind hkc hcl ⟨_, KX _ _ hcell, rfl⟩ ?_
  rw [har]
  refine wpAny_loadName_local I.ok.kind hka hns hm ?_
  obtain ⟨hh, g, d, t, os⟩ := s
  refine PySem.ks_wpAny_isType_cls (KX _ _ hD1) hD2 ⟨rfl, ?_⟩
  refine PySem.ks_wpAny_call_super (KX _ _ hD1) hD2 ho rfl (fun c e => by cases e) (PySem.W.looks_mroIn KX S.sub) (fun h' e1 k1 => ?_)
  have I1 : Inv X pins σ H ⟨h', g, d, t, os⟩ := I.kept (t' := t) k1
  have hI : PySem.W.Looks (model X.prog X.w) h' (isInstance (.ref a) (.type "ValueError")) true := by
    have J : PySem.W.InstAt h' a _ C none := ⟨k1 _ _ ho, rfl, rfl, trivial⟩
    exact J.type.andThen (PySem.W.looks_subIn I1.kIn S.ve)
  have hm2 : PySem.W.alongIn X.K "__init__" ((cd.mro.dropWhile (· != .ref C)).drop 1) = some (some (.builtin veI)) := by
    have z := S.sup
    unfold PySem.W.ks_superIn at z
    rw [hD] at z
    exact z
  refine PySem.W.kxs_getMethod PySem.W.kxs_ValueError e1 (PySem.W.looks_opaque I1.kIn S.op) (l₀ := cd.mro) (fun A Q E s k q => wpAny_bind ((PySem.W.looks_clsIn I1.kIn hD) A _ E s k (wpAny_pure q))) rfl I1.kIn hm2 hI hxC (by decide) ?_
  have k2 : ∀ b o, h'.get? b = some o → (h'.push (PySem.W.kxs_mw veI a)).get? b = some o := fun b o e => Heap.get?_push_of_some _ e
  have I2 : Inv X pins σ H ⟨h'.push (PySem.W.kxs_mw veI a), g, d, t + 1, os⟩ := I1.kept (t' := t + 1) k2
  have hu : (h'.push (PySem.W.kxs_mw veI a)).get? h'.objs.size = some (PySem.W.kxs_mw veI a) := Heap.get?_push_at rfl rfl
  have I3 : Inv X ((h'.objs.size, PySem.W.kxs_mw veI a) :: pins) σ H ⟨h'.push (PySem.W.kxs_mw veI a), g, d, t + 1, os⟩ := I2.pins_of fun p hp => by
    rcases List.mem_cons.mp hp with rfl | hp
    · refine ⟨hu, I1.hok.fresh (Nat.le_refl _), fun z => ?_, I1.nofs (Nat.le_refl _), fun v z => by cases z⟩
      have y := I1.lt
      rw [← z] at y
      exact Nat.lt_irrefl _ y
    · exact I2.pin p (List.mem_append_right _ hp)
  refine PySem.W.kxs_callWith (i := veI) (x := a) (by rw [hst]; rfl) ?_
  rw [hst]
  refine PySem.Calls.evalArgs_plain ?_
  show wpAny _ _ (spliced ((false, eval arg X.env) :: backTo p3 (starEach [] X.env))) _ _ _
  refine Calls.spliced_cons (thn (ha.run _ _ σ H _ I3 q) fun v s2 ⟨x, H1, I4, rx, e4, q4⟩ => ?_)
  refine Calls.spliced_nil ?_
  have hu4 := (I4.pin (h'.objs.size, PySem.W.kxs_mw veI a) (List.mem_append_right _ List.mem_cons_self)).1
  refine ⟨hu4, ?_⟩
  have I5 : Inv X pins σ H1 s2 := I4.pins_of fun p hp => I4.pin p (List.mem_append_right _ (List.mem_cons_of_mem _ hp))
  exact mwinit_ok S.T I5 hu4 e4 (by show 1 ≤ sizeLine; rw [sizeLine_eq]; omega) fun s' J => ⟨rfl, H1, J, q4⟩
end
end Pc
set_option Elab.async false
set_option linter.all false
set_option maxRecDepth 100000
set_option maxHeartbeats 2000000
set_option autoImplicit false
/-! PcX2: what such an __init__ promises -/
namespace Pc
open PySem PySem.Spec PyProof.Rows L2 NdefX
section
variable {P : Program} {w : World} {K : PySem.W.Frag} {mg : Str → Option Value} {base : Heap} {k : Nat} {F : NF} {f cc C : Addr} {doc pm ctv : Value} {sf : Str} {N ps : List Str} {sp : Sp} {p0 p1 p2 p3 p4 : Pos} {arg : Expr} {rest : List Stmt}
theorem exi_of (S : SupC P K C f (F.fd doc pm ctv) F.c cc sf) (hcl : F.cl = [(("__class__" : Str), cc)]) (hcode : PySem.W.codeIn K (.ref F.c) F.qual = true) (NS : NScope N ps ["__class__"] F.scope)
    (hks : F.scope.names.lookup ("super" : Str) = some .globalImplicit) (hka : F.scope.names.lookup sf = some .local) (hN0 : N[0]? = some sf) (hbody : F.body = .Expr (.Call (.Attribute (.Call (.Name "super" p0) [] [] p1) "__init__" p2) [arg] [] p3) p4 :: rest)
    (hna : noStar arg = true) (hline : (p2.endLine == p3.line) = true) (len : ∀ vs H Q E, sp vs H Q E → vs.length = ps.length)
    (hb : ∀ (X : Cx) (vs : List V) (H : Hp) (Q : VK) (E : XK), X.N = N → X.env.scope = F.scope → X.K = K → sp vs H Q E → ∃ a vr te t, vs = .ref a :: vr ∧ H a = some (exo a C none) ∧ PE X arg te ∧ PSs X rest t ∧
      te (startF N vs [none]) H fun _ H1 => H1 a = some (exo a C none) ∧ t { nx := fun _ H' => Q .non H', rt := Q } (startF N vs [none]) H1) :
    FnOkG P w K mg base (L2.CX P w) k f (F.fd doc pm ctv) ps sp := by
  refine ⟨len, fun A outer s H args us vs Q E hgd hr e0 hbd r hsp => ?_⟩
  have hl := len _ _ _ _ hsp
  have KX : K.In s.heap := e0.mod.kin.keeps fun b o e => (e0.bs b o e).1
  have lim : s.heap.NoLimit := e0.mod.nolimit.keeps fun b o e => (e0.bs b o e).1
  obtain ⟨oc, od, osl, hf⟩ := S.fn
  obtain ⟨cl, cld, csl, hcell⟩ := S.cell
  have CA : CellsAt F.cl ["__class__"] [none] s.heap H := by
    rw [hcl]
    refine ⟨rfl, fun y c e => ?_, fun x y c e1 e2 => ?_, fun i y hi => ?_⟩
    · have ec : c = cc := by
        rw [List.lookup_cons] at e
        split at e
        · exact (Option.some.inj e).symm
        · cases e
      subst ec
      have hb0 := e0.mod.kin _ _ hcell
      exact ⟨(e0.bs _ _ hb0).2, some (.ref C), _, KX _ _ hcell, rfl⟩
    · have key : ∀ {z : Str}, List.lookup z [(("__class__" : Str), cc)] = some c → z = "__class__" := by
        intro z e
        rw [List.lookup_cons] at e
        split at e
        · rename_i h
          exact beq_iff_eq.mp h
        · cases e
      rw [key e1, key e2]
    · cases i with
      | zero =>
        cases hi
        refine ⟨cc, by rw [List.lookup_cons]; simp, fun v z => ?_⟩
        cases z
      | succ j => cases hi
  refine codeAny_call_function hr.depth (KX _ _ hf) rfl NS.co NS.gen rfl (PySem.W.codeRec_of KX hcode) (hbd _ _ _ _ ?_)
  refine wpAny_newFunctionEnv NS.nocell (fun ⟨n, _⟩ hy => NS.par n (List.of_mem_zip hy).1) (fun h₁ hns hsb => ⟨lim.fresh _ hsb, ?_⟩) NS.kind
  show codeAny _ _ (.func F.body (envF F f s.heap.objs.size)) _ _
  refine PySem.ks_codeAny_funcAt ?_
  have kp : ∀ b o, s.heap.get? b = some o → h₁.get? b = some o := fun b o e => hsb.extBut b o (Nat.ne_of_lt (Heap.lt_size e)) (Heap.get?_push_of_some _ e)
  have I : Inv (ncx (L2.CX P w) P w K mg base N F f A outer s H E) [] (startF N vs [none]) H { s with heap := h₁, toks := s.toks + (ps.zip us).length } := inv_startN NS hr.hd e0 hl r CA hns kp
  obtain ⟨a, vr, te, t, hvs, hea, he, ht, hq⟩ := hb (ncx (L2.CX P w) P w K mg base N F f A outer s H E) vs H Q E rfl rfl rfl hsp
  have hs0 : (startF N vs [none])[0]? = some (some (.ref a)) := by
    rw [hvs]
    rfl
  have fin : ∀ {σ' : L2.St} {H' : Hp} {v : V} {u : Value} {s' : Shared}, Inv (ncx (L2.CX P w) P w K mg base N F f A outer s H E) [] σ' H' s' → L2.RelV v u → Q v H' → CE outer P w H s Q u s' :=
    fun {σ' H' v u s'} J rv q => ⟨v, H', J.os, J.bare, J.base, J.hok, rv, q⟩
  have key := sup_stmt (body := F.body) (p0 := p0) (p1 := p1) (p2 := p2) (p3 := p3) (p4 := p4) (Q := fun H1 => t { nx := fun _ H' => Q .non H', rt := Q } (startF N vs [none]) H1) S I hks (NS.frk _ (by simp)) (by show F.cl.lookup _ = _; rw [hcl, List.lookup_cons]; simp) rfl rfl hka hea hN0 hs0 he hq hna hline (by show (F.scope.kind == _ && _) = false; rw [NS.kind]; rfl)
  rw [hbody] at key ⊢
  refine PySem.ks_wpAt_execs_cons (_root_.PySem.wpAt_mono key (fun fl s' ⟨hfl, H', J, q⟩ => ?_) fun _ _ x => x)
  subst hfl
  refine _root_.PySem.wpAt_of_wpAny (wpAny_mono (ht.run [] _ _ _ _ J q) (fun fl s'' hs => ?_) fun e s' hs => hs)
  cases fl with
  | ret u =>
    obtain ⟨v, σ', H', J, rv, q⟩ := hs
    exact fin J rv q
  | next =>
    obtain ⟨σ', H', J, q⟩ := hs
    exact fin (v := V.non) (u := Value.none) J rfl q
  | brk =>
    obtain ⟨_, _, _, q⟩ := hs
    exact False.elim q
  | cont =>
    obtain ⟨_, _, _, q⟩ := hs
    exact False.elim q
end
end Pc
set_option Elab.async false
set_option linter.all false
set_option maxRecDepth 100000
set_option maxHeartbeats 2000000
set_option autoImplicit false
/-! PcX3: .. for each of the shapes -/
namespace Pc
open PySem PySem.Spec PyProof.Rows L2 NdefX
/-- what an f-string takes -/
def Fmt : V → Prop
  | .str y => y.length ≤ 1900
  | .int i => i.natAbs.log2 < 1920
  | _ => False
def spX (C : Addr) (fm : Bool) : Option Str → Sp
  | none => fun vs H Q _ => ∃ a, vs = [.ref a] ∧ H a = some (exo a C none) ∧ Q .non H
  | some fl => fun vs H Q _ => ∃ a x, vs = [.ref a, x] ∧ (fm = true → Fmt x) ∧ H a = some (exo a C none) ∧ ∀ dx, H dx = none → dx ≠ a → Q .non (upd (upd H dx (exd dx [(fl, x)])) a (exo a C (some dx)))
def nOf : Option Str → Nat
  | none => 1
  | some _ => 2
theorem spX_len {C : Addr} {fm : Bool} : ∀ {fl : Option Str} (vs : List V) (H : Hp) (Q : VK) (E : XK), spX C fm fl vs H Q E → vs.length = nOf fl
  | none, _, _, _, _, ⟨_, e, _⟩ => by rw [e]; rfl
  | some _, _, _, _, _, ⟨_, _, e, _⟩ => by rw [e]; rfl
def partB (x : Str) : Expr → Bool
  | .Constant (.str s) _ _ => decide (s.length ≤ 1900)
  | .FormattedValue (.Name y _) c none _ => decide (y = x) && decide (c = -1)
  | _ => false
def plainB (x : Str) : Bool := !(x == ("__debug__" : Str)) && !(x == ("__classdict__" : Str))
section
variable {X : Cx} {i : Nat} {x : Str}
theorem parts_pe (hN : X.N[i]? = some x) (hv : Vis X.env.scope x) (hp : plainB x = true) : ∀ l : List Expr, l.all (partB x) = true → ∃ ts, PJ X l ts ∧
    ∀ (σ : L2.St) (H : Hp) (v : V), σ[i]? = some (some v) → Fmt v → ∀ (acc : Str) (Q : Str → Hp → Prop), acc.length + 2000 * l.length ≤ 40000 → (∀ out, Q out H) → tJs ts acc σ H Q
  | [], _ => ⟨[], .nil, fun σ H v hv hf acc Q hl q => q acc⟩
  | e :: l, h => by
    rw [List.all_cons, Bool.and_eq_true] at h
    obtain ⟨ts, h1, h2⟩ := parts_pe hN hv hp l h.2
    unfold plainB at hp
    simp only [Bool.and_eq_true, Bool.not_eq_true'] at hp
    obtain ⟨d1, d2⟩ := hp
    have hz : ∀ n : Nat, n ≤ 40000 → n ≤ sizeLine := fun n hn => by rw [sizeLine_eq]; omega
    have he := h.1
    unfold partB at he
    split at he
    · rename_i s j pos
      refine ⟨tC (.str s) :: ts, .cons pe_str h1, fun σ H v hs hf acc Q hl q => ?_⟩
      rw [List.length_cons] at hl
      have hs1 : s.length ≤ 1900 := of_decide_eq_true he
      have e1 : (acc ++ s).length = acc.length + s.length := PySem.Str.length_append _ _
      exact ⟨s, rfl, hz _ (by omega), h2 σ H v hs hf _ Q (by omega) q⟩
    · rename_i y py c pos
      rw [Bool.and_eq_true] at he
      obtain rfl : y = x := of_decide_eq_true he.1
      obtain rfl : c = -1 := of_decide_eq_true he.2
      refine ⟨tFmt (tVar i) :: ts, .cons (pe_fmt (pe_var hN hv d1 d2)) h1, fun σ H v hs hf acc Q hl q => ⟨v, hs, ?_⟩⟩
      rw [List.length_cons] at hl
      cases v with
      | str y =>
        have hf : y.length ≤ 1900 := hf
        have e1 : (acc ++ y).length = acc.length + y.length := PySem.Str.length_append _ _
        exact .inl ⟨y, rfl, hz _ (by omega), y, rfl, hz _ (by omega), h2 σ H _ hs hf _ Q (by omega) q⟩
      | int n =>
        have hf' : n.natAbs.log2 < 1920 := hf
        have hn := int_text_length_le (k := 1920) (by decide) hf'
        have e1 : (acc ++ Str.ofString (toString n)).length = acc.length + (toString n).length := by rw [PySem.Str.length_append, PySem.ofString_length]
        exact .inr ⟨n, rfl, hf', _, rfl, hz _ (by omega), h2 σ H _ hs hf _ Q (by omega) q⟩
      | _ => exact hf.elim
    · cases he
end
def argB (x : Option Str) : Expr → Bool
  | .Constant (.str _) _ _ => true
  | .JoinedStr (v1 :: v2 :: rest) _ => (match x with
    | some x => (v1 :: v2 :: rest).all (partB x) && decide ((v1 :: v2 :: rest).length ≤ 15)
    | none => false)
  | _ => false
def argF : Expr → Bool
  | .JoinedStr .. => true
  | _ => false
theorem argB_star {x : Option Str} {e : Expr} (h : argB x e = true) : noStar e = true := by
  unfold argB at h
  split at h
  · rfl
  · rfl
  · cases h
section
variable {X : Cx} {i : Nat} {x : Option Str} {e : Expr}
theorem arg_pe (hx : ∀ y, x = some y → X.N[i]? = some y ∧ Vis X.env.scope y ∧ plainB y = true) (h : argB x e = true) : ∃ te, PE X e te ∧
    ∀ (σ : L2.St) (H : Hp) (Q : Hp → Prop), (argF e = true → ∃ v, σ[i]? = some (some v) ∧ Fmt v) → Q H → te σ H fun _ H1 => Q H1 := by
  unfold argB at h
  split at h
  · exact ⟨_, pe_str, fun σ H Q _ q => q⟩
  · rename_i v1 v2 rest pos
    split at h
    · rename_i y
      obtain ⟨h1, h2, h3⟩ := hx y rfl
      rw [Bool.and_eq_true] at h
      obtain ⟨ts, t1, t2⟩ := parts_pe h1 h2 h3 _ h.1
      refine ⟨_, pe_joined t1, fun σ H Q hf q => ?_⟩
      obtain ⟨v, s1, s2⟩ := hf rfl
      have hl : (v1 :: v2 :: rest).length ≤ 15 := of_decide_eq_true h.2
      exact t2 σ H v s1 s2 Str.empty _ (by show 0 + _ ≤ _; omega) fun out => q
    · cases h
  · cases h
end
section
variable {P : Program} {w : World} {K : PySem.W.Frag} {mg : Str → Option Value} {base : Heap} {k : Nat} {F : NF} {f cc C : Addr} {doc pm ctv : Value} {sf : Str} {p0 p1 p2 p3 p4 : Pos} {arg : Expr}
/-- without a field -/
theorem exi_none (S : SupC P K C f (F.fd doc pm ctv) F.c cc sf) (hcl : F.cl = [(("__class__" : Str), cc)]) (hcode : PySem.W.codeIn K (.ref F.c) F.qual = true) (NS : NScope [sf, "__class__"] [sf] ["__class__"] F.scope)
    (hks : F.scope.names.lookup ("super" : Str) = some .globalImplicit) (hbody : F.body = [.Expr (.Call (.Attribute (.Call (.Name "super" p0) [] [] p1) "__init__" p2) [arg] [] p3) p4])
    (ha : argB none arg = true) (hline : (p2.endLine == p3.line) = true) : FnOkG P w K mg base (L2.CX P w) k f (F.fd doc pm ctv) [sf] (spX C (argF arg) none) := by
  have hf : argF arg = false := by
    unfold argB at ha
    split at ha
    · rfl
    · cases ha
    · cases ha
  refine exi_of S hcl hcode NS hks (NS.par _ (by simp)) rfl hbody (argB_star ha) hline spX_len fun X vs H Q E hN hs hK hsp => ?_
  obtain ⟨a, rfl, hea, q⟩ := hsp
  obtain ⟨te, h1, h2⟩ := arg_pe (X := X) (i := 0) (x := none) (fun y e => by cases e) ha
  refine ⟨a, [], te, tNext, rfl, hea, h1, pss_nil, h2 _ _ _ (fun z => by rw [hf] at z; cases z) ⟨hea, q⟩⟩
/-- with one -/
theorem exi_some {q0 q1 q2 q3 : Pos} {xn fl : Str} (S : SupC P K C f (F.fd doc pm ctv) F.c cc sf) (hcl : F.cl = [(("__class__" : Str), cc)]) (hcode : PySem.W.codeIn K (.ref F.c) F.qual = true) (NS : NScope [sf, xn, "__class__"] [sf, xn] ["__class__"] F.scope)
    (hks : F.scope.names.lookup ("super" : Str) = some .globalImplicit) (hbody : F.body = [.Expr (.Call (.Attribute (.Call (.Name "super" p0) [] [] p1) "__init__" p2) [arg] [] p3) p4, .Assign [.Attribute (.Name sf q0) fl q1] (.Name xn q2) q3])
    (ha : argB (some xn) arg = true) (hline : (p2.endLine == p3.line) = true) (hpx : plainB xn = true) (hps : plainB sf = true) (hno : PySem.W.findIn K (.ref C) fl = some none) : FnOkG P w K mg base (L2.CX P w) k f (F.fd doc pm ctv) [sf, xn] (spX C (argF arg) (some fl)) := by
  refine exi_of S hcl hcode NS hks (NS.par _ (by simp)) rfl hbody (argB_star ha) hline spX_len fun X vs H Q E hN hs hK hsp => ?_
  obtain ⟨a, x, rfl, hfm, hea, q⟩ := hsp
  have hv1 : Vis X.env.scope xn := .inl (by rw [hs]; exact NS.par _ (by simp))
  have hv0 : Vis X.env.scope sf := .inl (by rw [hs]; exact NS.par _ (by simp))
  have d1 := hpx
  have d0 := hps
  unfold plainB at d1 d0
  simp only [Bool.and_eq_true, Bool.not_eq_true'] at d1 d0
  obtain ⟨te, h1, h2⟩ := arg_pe (X := X) (i := 1) (x := some xn) (fun y e => by cases e; exact ⟨by rw [hN]; rfl, hv1, hpx⟩) ha
  have ho : PE X (.Name sf q0) (tVar 0) := pe_var (by rw [hN]; rfl) hv0 d0.1 d0.2
  have he : PE X (.Name xn q2) (tVar 1) := pe_var (by rw [hN]; rfl) hv1 d1.1 d1.2
  refine ⟨a, [x], te, _, rfl, hea, h1, pss_one (ps_ost (f := fl) ho he (by rfl)), h2 _ _ _ (fun z => ⟨x, rfl, hfm z⟩) ⟨hea, ?_⟩⟩
  refine ⟨x, rfl, .ref a, rfl, a, C, rfl, by rw [hK]; exact S.T, by rw [hK]; exact hno, .inl ⟨hea, fun dx n ne => q dx n ne⟩⟩
end
end Pc
set_option Elab.async false
set_option linter.all false
set_option maxRecDepth 100000
set_option maxHeartbeats 2000000
set_option autoImplicit false
/-! PcX4: .. seen in the written part -/
namespace Pc
open PySem PySem.Spec PyProof.Rows L2 NdefX
theorem fmap_congr {α β : Type} {f g : α → Option β} : ∀ {l : List α}, (∀ m ∈ l, f m = g m) → l.filterMap f = l.filterMap g
  | [], _ => rfl
  | a :: l, h => by rw [List.filterMap_cons, List.filterMap_cons, h a List.mem_cons_self, fmap_congr fun m hm => h m (List.mem_cons_of_mem _ hm)]
theorem zip_some : ∀ {ns : List Str} {us : List Value} {x : Str}, us.length = ns.length → x ∈ ns → ((ns.zip us).lookup x).isSome = true
  | [], _, _, _, h => by cases h
  | n :: ns, [], _, h, _ => by cases h
  | n :: ns, u :: us, x, hl, h => by
    rw [List.zip_cons_cons, List.lookup_cons]
    cases hx : (x == n) with
    | true => rfl
    | false =>
      refine zip_some (by simpa using hl) ((List.mem_cons.mp h).resolve_left fun e => ?_)
      subst e
      simp at hx
theorem zip_map : ∀ {ns : List Str} {us : List Value}, ns.Nodup → us.length = ns.length → ns.filterMap (fun n => ((ns.zip us).lookup n).map (n, ·)) = ns.zip us
  | [], us, _, _ => rfl
  | n :: ns, [], _, h => by cases h
  | n :: ns, u :: us, nd, hl => by
    have nd' := List.nodup_cons.mp nd
    rw [List.zip_cons_cons, List.filterMap_cons, List.lookup_cons]
    have e : (n == n) = true := by simp
    rw [e]
    show (n, u) :: _ = _
    have ih := zip_map nd'.2 (us := us) (by simpa using hl)
    congr 1
    refine Eq.trans ?_ ih
    refine fmap_congr fun m hm => ?_
    rw [List.lookup_cons]
    have : (m == n) = false := by
      apply Bool.eq_false_iff.mpr
      intro z
      rw [beq_iff_eq.mp z] at hm
      exact nd'.1 hm
    rw [this]
theorem bind_plain {fd : FuncData} {us : List Value} {ns : List Str} (h1 : fd.params.posonlyargs = []) (h2 : fd.params.kwonlyargs = []) (h3 : fd.params.vararg = none) (h4 : fd.params.kwarg = none) (h5 : fd.defaults = .none) (h6 : fd.params.args.map (·.arg) = ns) (nd : ns.Nodup) (hl : us.length = ns.length) :
    bindArgs fd ⟨us, []⟩ = pure (ns.zip us) := by
  have e1 : seqItems? fd.defaults = pure none := by rw [h5]; rfl
  have e2 : (ns.filter fun n => ((ns.zip us).lookup n).isNone) = [] := by
    rw [List.filter_eq_nil_iff]
    intro x hx
    have := zip_some hl hx
    rw [Option.isNone_iff_eq_none]
    intro z
    rw [z] at this
    cases this
  unfold bindArgs
  simp only [h1, h2, h3, h4, e1, h6, List.map_nil, List.nil_append, List.append_nil, List.length_nil]
  simp [hl, e2, zip_map nd hl]

theorem take_nodup {l m : List Str} (h : l.Nodup) (e : l.take m.length = m) : m.Nodup := by
  rw [← e]
  exact h.sublist (List.take_sublist _ _)
/-- an own exception class and its __init__ -/
structure ExaOk (P : Program) (K : PySem.W.Frag) (C : Addr) (fm : Bool) (fl : Option Str) : Prop where
  T : OexC K C
  ini : ∃ fI fd ps, PySem.W.findIn K (.ref C) "__init__" = some (some (.ref fI)) ∧ PySem.W.typeIn K (.ref fI) = some (.type "function") ∧ Binds K fd ps [] ∧ ps.length = nOf fl ∧
    ∀ (w : World) (mg : Str → Option Value) (base : Heap) (k : Nat), FnOkG P w K mg base (L2.CX P w) k fI fd ps (spX C fm fl)
def oexB (K : PySem.W.Frag) (C : Addr) : Bool := match K.lookup C with
  | some ⟨.type t, _, .cls cd, sl⟩ => t == "type" && (match cd.mro, sl.toList with
    | .ref C' :: bm, [_, _, _, _, some (.builtin n), _] => C' == C && n == "ValueError.__new__" && !cd.hasDel && cd.hasDict && PySem.HandSPX.refsVE bm
    | _, _ => false)
  | _ => false
def oexB2 (K : PySem.W.Frag) (C : Addr) : Bool := PySem.W.findIn K (.ref C) "__setattr__" == some (some (.builtin "object.__setattr__")) && PySem.W.subIn K (.ref C) (.type "BaseException") == some true && PySem.W.typeIn K (.ref C) == some (.type "type") && PySem.W.keepIn K (.ref C)
theorem oex_of {K : PySem.W.Frag} {C : Addr} (h : oexB K C = true) (h2 : oexB2 K C = true) : OexC K C := by
  unfold oexB2 at h2
  simp only [Bool.and_eq_true, beq_iff_eq] at h2
  obtain ⟨⟨⟨g1, g2⟩, g3⟩, g4⟩ := h2
  refine ⟨?_, g1, g2, g3, g4⟩
  unfold oexB at h
  split at h
  · rename_i t dd cd sl ho
    rw [Bool.and_eq_true] at h
    obtain ⟨ht, h⟩ := h
    split at h
    · rename_i C' bm k0 k1 k2 k3 n k5 hm hs
      simp only [Bool.and_eq_true, beq_iff_eq, Bool.not_eq_true'] at h ht
      obtain ⟨⟨⟨⟨rfl, rfl⟩, hdel⟩, hd⟩, hr⟩ := h
      subst ht
      obtain ⟨nm, bs, mro, ns, qn, hdc, sn, sub, ab, col, del⟩ := cd
      dsimp only at hm hdel hd
      subst hm hdel hd
      have hsl : sl = #[k0, k1, k2, k3, some (.builtin "ValueError.__new__"), k5] := by
        obtain ⟨l⟩ := sl
        simp only at hs
        rw [hs]
      subst hsl
      exact ⟨nm, qn, ns, bs, bm, sn, sub, ab, col, dd, k0, k1, k2, k3, k5, ho, hr⟩
    · cases h
  · cases h
def bodyB (sf : Str) (xn fl : Option Str) (fm : Bool) : List Stmt → Bool
  | [.Expr (.Call (.Attribute (.Call (.Name s p0) [] [] p1) m p2) [arg] [] p3) p4] => decide (s = ("super" : Str)) && decide (m = ("__init__" : Str)) && decide (fl = none) && argB none arg && (p2.endLine == p3.line) && (argF arg == fm)
  | [.Expr (.Call (.Attribute (.Call (.Name s p0) [] [] p1) m p2) [arg] [] p3) p4, .Assign [.Attribute (.Name s1 q0) f q1] (.Name y q2) q3] =>
    decide (s = ("super" : Str)) && decide (m = ("__init__" : Str)) && decide (s1 = sf) && decide (xn = some y) && decide (fl = some f) && argB (some y) arg && (p2.endLine == p3.line) && (argF arg == fm)
  | _ => false
def codB (P : Program) (K : PySem.W.Frag) (cda : Addr) : Bool := match K.lookup cda with
  | some ⟨_, _, .fields vs, _⟩ => (match (vs[2]? : Option Value) with
    | some (Value.str file _) => (P.main.file : Str) == file
    | _ => false)
  | _ => false
def celB (K : PySem.W.Frag) (cc C : Addr) : Bool := match K.lookup cc with
  | some ⟨_, _, .cell (some (.ref D)), _⟩ => D == C
  | _ => false
def iniB (P : Program) (K : PySem.W.Frag) (C : Addr) (fm : Bool) (fl : Option Str) : FuncData → Bool
  | ⟨nm, q, pr, .stmts body, sc, g, [(cn, cc)], .none, .none, doc, pm, none, .ref cda, ct, b⟩ =>
    g == mainGlobals && b == builtinsNs && decide (cn = ("__class__" : Str)) && PySem.W.codeIn K (.ref cda) q && codB P K cda && celB K cc C && decide (sc.names.lookup ("super" : Str) = some .globalImplicit) &&
    pr.posonlyargs.isEmpty && pr.kwonlyargs.isEmpty && pr.vararg.isNone && pr.kwarg.isNone &&
    (match pr.args.map (·.arg), fl with
    | [sf], none => nscB [sf, "__class__"] [sf] ["__class__"] sc && bodyB sf none none fm body
    | [sf, xn], some f => nscB [sf, xn, "__class__"] [sf, xn] ["__class__"] sc && bodyB sf (some xn) (some f) fm body && plainB xn && plainB sf && (PySem.W.findIn K (.ref C) f == some none)
    | _, _ => false)
  | _ => false
def exaB (P : Program) (K : PySem.W.Frag) (C : Addr) (fm : Bool) (fl : Option Str) : Bool := oexB K C && oexB2 K C && (PySem.W.mroIn K C (.ref C) == some true) && (PySem.W.nsIn K cStatics "thirdparty.any" == some none) && (PySem.W.ks_superIn K C C "__init__" == some (some (.builtin veI))) &&
  (PySem.W.subIn K (.ref C) (.type "ValueError") == some true) && !(P.main.scope.names.lookup ("super" : Str)).isSome && (PySem.W.nsIn K mainGlobals "super" == some none) &&
  (match PySem.W.findIn K (.ref C) "__init__" with
  | some (some (.ref f)) => (match K.lookup f with
    | some ⟨.type t, _, .func fd, _⟩ => t == "function" && iniB P K C fm fl fd
    | _ => false)
  | _ => false)
theorem exa_ok {P : Program} {K : PySem.W.Frag} {C : Addr} {fm : Bool} {fl : Option Str} (h : exaB P K C fm fl = true) : ExaOk P K C fm fl := by
  unfold exaB at h
  simp only [Bool.and_eq_true, beq_iff_eq, Bool.not_eq_true'] at h
  obtain ⟨⟨⟨⟨⟨⟨⟨⟨a1, a2⟩, a3⟩, a4⟩, a5⟩, a6⟩, a7⟩, a8⟩, h⟩ := h
  have T := oex_of a1 a2
  refine ⟨T, ?_⟩
  split at h
  · rename_i f hf
    split at h
    · rename_i t od fd osl hl
      rw [Bool.and_eq_true] at h
      obtain ⟨ht, h⟩ := h
      have ht : t = "function" := beq_iff_eq.mp ht
      subst ht
      unfold iniB at h
      split at h
      · rename_i nm q pr body sc g cn cc doc pm cda ct b
        simp only [Bool.and_eq_true, beq_iff_eq, decide_eq_true_eq, List.isEmpty_iff, Option.isNone_iff_eq_none] at h
        obtain ⟨⟨⟨⟨⟨⟨⟨⟨⟨⟨⟨b1, b2⟩, b3⟩, b4⟩, b5⟩, b6⟩, b7⟩, b8⟩, b9⟩, b10⟩, b11⟩, h⟩ := h
        subst b1 b2 b3
        have code : ∃ ccl cdd vs ccs file tf, K.lookup cda = some ⟨ccl, cdd, .fields vs, ccs⟩ ∧ vs[2]? = some (.str file tf) ∧ ((P.main.file : Str) == file) = true := by
          unfold codB at b5
          split at b5
          · rename_i c1 c2 vs c3 hc
            split at b5
            · rename_i file tf hv
              exact ⟨_, _, _, _, file, tf, hc, hv, b5⟩
            · cases b5
          · cases b5
        have cell : ∃ cl cld csl, K.lookup cc = some ⟨cl, cld, .cell (some (.ref C)), csl⟩ := by
          unfold celB at b6
          split at b6
          · rename_i c1 c2 D c3 hc
            have e : D = C := beq_iff_eq.mp b6
            subst e
            exact ⟨_, _, _, hc⟩
          · cases b6
        have tI : PySem.W.typeIn K (.ref f) = some (.type "function") := by
          show (K.lookup f).map (·.cls) = _
          rw [hl]
          rfl
        have bind : ∀ {ps : List Str}, pr.args.map (·.arg) = ps → ps.Nodup → Binds K ((NF.mk nm q pr body sc [(("__class__" : Str), cc)] cda).fd doc pm ct) ps [] := fun {ps} e nd => .all fun us hl => bind_plain b8 b9 b10 b11 rfl e nd hl
        have S : ∀ {sf : Str} {l : List Arg}, pr.args = l → (l.map (·.arg)).head? = some sf → SupC P K C f ((NF.mk nm q pr body sc [(("__class__" : Str), cc)] cda).fd doc pm ct) cda cc sf := fun {sf l} e e2 => by
          refine ⟨T, ⟨_, od, osl, hl⟩, ?_, code, cell, a3, a4, a5, a6, a7, a8⟩
          show ∃ ar, (pr.posonlyargs ++ pr.args).head? = some ar ∧ ar.arg = sf
          rw [b8, e]
          cases l with
          | nil => cases e2
          | cons x l =>
            cases e2
            exact ⟨x, rfl, rfl⟩
        split at h
        · rename_i sf hps
          rw [Bool.and_eq_true] at h
          obtain ⟨c1, c2⟩ := h
          have NS := nscope_by c1
          unfold bodyB at c2
          split at c2
          · rename_i s p0 p1 m p2 arg p3 p4
            simp only [Bool.and_eq_true, beq_iff_eq, decide_eq_true_eq] at c2
            obtain ⟨⟨⟨⟨⟨rfl, rfl⟩, _⟩, d1⟩, d2⟩, rfl⟩ := c2
            exact ⟨f, _, [sf], hf, tI, bind hps (by simp), rfl, fun w mg base k => exi_none (F := ⟨nm, q, pr, _, sc, [(("__class__" : Str), cc)], cda⟩) (S rfl (by rw [hps]; rfl)) rfl b4 NS b7 rfl d1 (by rw [d2]; simp)⟩
          · rename_i s p0 p1 m p2 arg p3 p4 s1 q0 f' q1 y q2 q3
            simp at c2
          · cases c2
        · rename_i sf xn fl hps
          simp only [Bool.and_eq_true, beq_iff_eq] at h
          obtain ⟨⟨⟨⟨c1, c2⟩, c3⟩, c4⟩, c5⟩ := h
          have NS := nscope_by c1
          unfold bodyB at c2
          split at c2
          · simp at c2
          · rename_i s p0 p1 m p2 arg p3 p4 s1 q0 f' q1 y q2 q3
            simp only [Bool.and_eq_true, beq_iff_eq, decide_eq_true_eq] at c2
            obtain ⟨⟨⟨⟨⟨⟨⟨rfl, rfl⟩, rfl⟩, e1⟩, e2⟩, d1⟩, d2⟩, rfl⟩ := c2
            cases e1
            cases e2
            have nd : [s1, xn].Nodup := by
              have z := NS.nd.sublist (List.take_sublist 2 _)
              exact z
            exact ⟨f, _, [s1, xn], hf, tI, bind hps nd, rfl, fun w mg base k => exi_some (F := ⟨nm, q, pr, _, sc, [(("__class__" : Str), cc)], cda⟩) (S rfl (by rw [hps]; rfl)) rfl b4 NS b7 rfl d1 (by rw [d2]; simp) c3 c4 c5⟩
          · cases c2
        · cases h
      · cases h
    · cases h
  · cases h
end Pc
set_option Elab.async false
set_option linter.all false
set_option maxRecDepth 100000
set_option maxHeartbeats 2000000
set_option autoImplicit false
/-! PcX5: exceptions as values: made, their fields -/
namespace Pc
open PySem PySem.Spec PyProof.Rows L2
def fmD : D → Bool
  | .str y => decide (y.length ≤ 1900)
  | .int i => decide (i.natAbs.log2 < 1920)
  | _ => false
def mkExo (c : Str) (fm : Bool) (fl : Option Str) (ds : List D) (M : Mem) : R RV := match fl, ds with
  | none, [] => .ok (.val (.exo c [] [])) M
  | some f, [d] => if fm then (if fmD d then .ok (.val (.exo c [f] [d])) M else .stuck) else .ok (.val (.exo c [f] [d])) M
  | _, _ => .stuck
theorem mkExo_one {c f : Str} {fm : Bool} {d : D} {M : Mem} (h : fm = true → fmD d = true) : mkExo c fm (some f) [d] M = .ok (.val (.exo c [f] [d])) M := by
  unfold mkExo
  cases fm with
  | true => simp [h rfl]
  | false => rfl
def mExo (c : Str) (fm : Bool) (fl : Option Str) (ms : MDs) : ME := fun env M => (ms env M).bind (mkExo c fm fl)
section
variable {K : PySem.W.Frag} {F : Hp} {io : List Addr}
theorem fmD_rel {d : D} {v : V} (r : Rel K F io d v) (h : fmD d = true) : Fmt v := by
  cases d with
  | str y =>
    obtain rfl : v = V.str y := r
    have z : y.length ≤ 1900 := of_decide_eq_true (show decide (y.length ≤ 1900) = true from h)
    exact z
  | int i =>
    obtain rfl : v = V.int i := r
    have z : i.natAbs.log2 < 1920 := of_decide_eq_true (show decide (i.natAbs.log2 < 1920) = true from h)
    exact z
  | _ => cases h
end
section
variable {X : Cx} {W : WX} {es : List Expr} {p pos : Pos}
theorem run_exo {c : Str} {lev : Nat} {fm : Bool} {fl : Option Str} {pins : List (Addr × Obj)} {σ : St} {H : Hp} {s : Shared} {Q : VK} {us : List Value} {vs : List V} {F : Hp} {io : List Addr} {ds : List D} {M : Mem}
    (T : ExaOk X.prog X.K (He.ga X.K c) fm fl) (gd : X.A.guards = some []) (hr : Room (lev + 1) X.A) (tk : Takes X W) (I : Inv X pins σ H s) (r : Vals vs us) (ha : HA X.K F io H M) (rl : RelL X.K F io ds vs)
    (p : PostE X.K W F io H σ Q (mkExo c fm fl ds M)) : wpAny (model X.prog X.w) X.A (call (.ref (He.ga X.K c)) us) (EP X pins σ Q) X.xe s := by
  obtain ⟨Tc, fI, fd, ps, iC, tI, bd, lp, F0⟩ := T
  obtain ⟨nm, q, N, bs, bm, sn, sub, ab, col, dd, k0, k1, k2, k3, k5, hC, hbm⟩ := Tc.cls
  have Fn := F0 X.w X.mg X.base lev
  have hsz : s.heap.objs.size ≤ s.heap.objs.size + 1 := Nat.le_succ _
  have hn : H (s.heap.objs.size + 1) = none := I.hok.fresh hsz
  -- what the class's __init__ is asked
  have hsp : spX (He.ga X.K c) fm fl (V.ref (s.heap.objs.size + 1) :: vs) (upd H (s.heap.objs.size + 1) (exo (s.heap.objs.size + 1) (He.ga X.K c) none)) (fun v H2 => v = .non ∧ Q (.ref (s.heap.objs.size + 1)) H2) (WE W σ) := by
    generalize s.heap.objs.size + 1 = a at hn
    obtain ⟨h1, x1, s1⟩ := ha.newF (o := exo a (He.ga X.K c) none) hn
    cases fl with
    | none =>
      cases ds with
      | nil =>
        have e : vs = [] := rl
        subst e
        exact ⟨a, rfl, upd_same, rfl, p _ io _ _ h1 x1 ⟨a, none, [], rfl, upd_same, rfl, rfl, rfl⟩⟩
      | cons d ds => exact p.elim
    | some f =>
      cases ds with
      | nil => exact p.elim
      | cons d ds =>
        cases ds with
        | cons d2 ds => exact p.elim
        | nil =>
          obtain ⟨x, l, e, rd, e2⟩ := (show ∃ v r, vs = v :: r ∧ Rel X.K F io d v ∧ RelL X.K F io [] r from rl)
          have e2 : l = [] := e2
          subst e2
          subst e
          have p2 : PostE X.K W F io H σ Q (.ok (.val (.exo c [f] [d])) M) ∧ (fm = true → Fmt x) := by
            unfold mkExo at p
            dsimp only at p
            split at p
            · split at p
              · rename_i hf
                exact ⟨p, fun _ => fmD_rel rd hf⟩
              · exact p.elim
            · rename_i hf
              exact ⟨p, fun z => absurd z hf⟩
          refine ⟨a, x, rfl, p2.2, upd_same, fun dx hdx ne => ⟨rfl, ?_⟩⟩
          -- the heap with the exception and its dict
          have hdx' : H dx = none := by
            rw [upd_ne ne] at hdx
            exact hdx
          have eq : upd (upd (upd H a (exo a (He.ga X.K c) none)) dx (exd dx [(f, x)])) a (exo a (He.ga X.K c) (some dx)) = upd (upd H dx (exd dx [(f, x)])) a (exo a (He.ga X.K c) (some dx)) := by
            funext b
            by_cases hb : b = a
            · rw [hb, upd_same, upd_same]
            · rw [upd_ne hb, upd_ne hb]
              by_cases hd : b = dx
              · rw [hd, upd_same, upd_same]
              · rw [upd_ne hd, upd_ne hd, upd_ne hb]
          rw [eq]
          obtain ⟨g1, y1, t1⟩ := ha.newF (o := exd dx [(f, x)]) hdx'
          have hn2 : upd H dx (exd dx [(f, x)]) a = none := by
            rw [upd_ne (Ne.symm ne)]
            exact hn
          obtain ⟨g2, y2, t2⟩ := g1.newF (o := exo a (He.ga X.K c) (some dx)) hn2
          refine p2.1 _ io _ _ g2 (y1.trans y2) ⟨a, some dx, [(f, x)], rfl, upd_same, ?_, rfl, ⟨x, [], rfl, Rel.mono (t1.trans t2) (fun _ _ z => z) d x rd, rfl⟩⟩
          show upd (upd F dx (exd dx [(f, x)])) a (exo a (He.ga X.K c) (some dx)) dx = _
          rw [upd_ne ne, upd_same]
  have hus : us.length ≤ sizeLine := by
    rw [← r.length, sizeLine_eq]
    have z := spX_len _ _ _ _ hsp
    rw [List.length_cons] at z
    cases fl <;> (have z : _ = _ := z; unfold nOf at z; simp only at z; omega)
  have r2 : Vals (V.ref (s.heap.objs.size + 1) :: vs) (Value.ref (s.heap.objs.size + 1) :: us) := .cons rfl r
  have hl2 : (Value.ref (s.heap.objs.size + 1) :: us).length = ps.length := by rw [← r2.length]; exact Fn.len _ _ _ _ hsp
  obtain ⟨hp, g, dr, tk0, os⟩ := s
  have kk : ∀ b o, hp.get? b = some o → ((hp.push (PySem.W.kdv_tup us)).push (PySem.HandSPX.excO (He.ga X.K c) hp.objs.size)).get? b = some o := fun b o e => Heap.get?_push_of_some _ (Heap.get?_push_of_some _ e)
  have hget : ((hp.push (PySem.W.kdv_tup us)).push (PySem.HandSPX.excO (He.ga X.K c) hp.objs.size)).get? (hp.objs.size + 1) = some (PySem.HandSPX.excO (He.ga X.K c) hp.objs.size) := by heap_get
  have I2 : Inv X pins σ (upd H (hp.objs.size + 1) (exo (hp.objs.size + 1) (He.ga X.K c) none)) ⟨(hp.push (PySem.W.kdv_tup us)).push (PySem.HandSPX.excO (He.ga X.K c) hp.objs.size), g, dr, tk0, os⟩ :=
    I.laid (t' := tk0) (a := hp.objs.size + 1) (o := exo (hp.objs.size + 1) (He.ga X.K c) none) (h' := (hp.push (PySem.W.kdv_tup us)).push (PySem.HandSPX.excO (He.ga X.K c) hp.objs.size)) kk hsz (exo_ok hget)
  have bb := bd _ (Value.ref (hp.objs.size + 1) :: us) I2.kIn (by rw [List.append_nil]; exact hl2)
  rw [List.append_nil] at bb
  refine wpAny_call (PySem.HandSPX.call_own PySem.F.excBase_ValueError (fun Y => PySem.HandSPX.refsVE_contains Y bm hbm) (I.kIn _ _ hC) (PySem.W.looks_findIn I.kIn iC) (fun self => PySem.W.bind_fn I.kIn self tI) hus
    (codeAny_mono (Fn.run _ X.stack _ _ ⟨Value.ref (hp.objs.size + 1) :: us, []⟩ (Value.ref (hp.objs.size + 1) :: us) _ _ (WE W σ) (guards_make.trans gd) (hr.make _ us []) (I2.env0.make _ us []) bb r2 hsp) fun r s' hq' => ?_))
  cases r with
  | error e => exact passAt tk σ pins _ _ e s' I2 hq'
  | ok fl =>
    cases fl with
    | ret u =>
      obtain ⟨v, H', I3, rv, ev, q3⟩ := I2.after hq'
      subst ev
      exact ⟨rv, ⟨V.ref (hp.objs.size + 1), H', I3, rfl, q3⟩⟩
    | next => exact False.elim hq'
    | brk => exact False.elim hq'
    | cont => exact False.elim hq'
theorem pm_exo {c : Str} {lev : Nat} {fm : Bool} {fl : Option Str} {ms : MDs} (T : ExaOk X.prog X.K (He.ga X.K c) fm fl) (gd : X.A.guards = some []) (hr : Room (lev + 1) X.A) (tk : Takes X W) (hg : Gl X c) (hm : X.mg c = some (.ref (He.ga X.K c)))
    (hd : (c == ("__debug__" : Str)) = false) (hn : es.all noStar = true) (hms : es = [] → ms = mNil) (ha : PA X es (tDs X.K W ms)) : PE X (.Call (.Name c p) es [] pos) (tE X.K W (mExo c fm fl ms)) :=
  pm_global hg (.inl hm) hd (.inl (PySem.W.keeps_K T.T.kC)) hn hms ha fun pins s σ H Q us vs ds M F' io I r a rl p => run_exo T gd hr tk I r a rl p
end
end Pc
set_option Elab.async false
set_option linter.all false
set_option maxRecDepth 100000
set_option maxHeartbeats 2000000
set_option autoImplicit false
/-! PcX6: e.f of an exception, isinstance -/
namespace Pc
open PySem PySem.Spec PyProof.Rows L2
def attrX (ok okx : Str → Str → Bool) (f : Str) (d : D) (M : Mem) : R RV := match d with
  | .exo c ns ds => if okx c f = true then oV (lookD ns ds f) M else .stuck
  | d => attrS ok f d M
def mAttrX (ok okx : Str → Str → Bool) (f : Str) (m : ME) : ME := fun env M => (mD m env M).bind fun d M1 => attrX ok okx f d M1
section
variable {X : Cx} {W : WX}
theorem getexo_ok {pins : List (Addr × Obj)} {σ : St} {H : Hp} {s : Shared} {a C : Addr} {od : Option Addr} {fs : List (Str × V)} {v : V} {f : Str} {b : Bool} {Q : Value → Shared → Prop} {E : Value → Shared → Prop} (T : XfC X.K C) (hno : PySem.W.findIn X.K (.ref C) f = some none)
    (I : Inv X pins σ H s) (e : H a = some (exo a C od)) (x : ExD H od fs) (l : fs.lookup f = some v) (h : ∀ u s', Inv X pins σ H s' → RelV v u → Q u s') : wpAny (model X.prog X.w) X.A (getAttr (.ref a) f b) Q E s := by
  cases od with
  | none =>
    have x : fs = [] := x
    subst x
    cases l
  | some dx =>
    have x : H dx = some (exd dx fs) := x
    obtain ⟨t1, ho⟩ := exo_at I.hok e
    obtain ⟨mA, hns, hr⟩ := exd_at I.hok x
    obtain ⟨oD, ho2, hl⟩ := lookIn_ns hns
    obtain ⟨u, hu, ru⟩ := RelO.some_of (v := v) (o := mA f) (by rw [← l]; exact hr f)
    have J : PySem.W.InstAt s.heap a _ C (some oD) := ⟨ho, rfl, rfl, ho2⟩
    exact PySem.HandSPX.exc_get I.kIn J T.ga T.gg T.exC (PySem.W.findObj_own T.hdC hno rfl (by rw [hl, hu])) (handed_of ru) (h u _ (I.tok _) ru)
theorem pm_attrX {ok okx : Str → Str → Bool} {f : Str} {e : Expr} {m : ME} {pos : Pos} (hok : ∀ c, ok c f = true → Cls X.K (He.ga X.K c) ∧ NoAttr X.K (He.ga X.K c) f)
    (hox : ∀ c, okx c f = true → XfC X.K (He.ga X.K c) ∧ PySem.W.findIn X.K (.ref (He.ga X.K c)) f = some none) (he : PE X e (tE X.K W m)) (hn : notSuper e = true) : PE X (.Attribute e f pos) (tE X.K W (mAttrX ok okx f m)) := by
  refine ⟨fun pins s σ H Q I h => ?_⟩
  have hd := tD_bind (r := fun x H1 => ∃ d M1 F1 io1, HA X.K F1 io1 H1 M1 ∧ Rel X.K F1 io1 d x ∧ PostE X.K W F1 io1 H1 σ Q (attrX ok okx f d M1)) h fun d M1 F1 io1 H1 x env a er r p => ⟨d, M1, F1, io1, a, r, p⟩
  refine attr_of (base_of hn f X.env _) (thn ((pe_d he).run pins s σ H _ I hd) fun u s1 hh => ?_)
  obtain ⟨x, H1, I1, rx, d, M1, F1, io1, a, r, p⟩ := hh
  unfold attrX at p
  split at p
  · rename_i c ns ds
    split at p
    · rename_i ho
      obtain ⟨d', e', p'⟩ := oV_some p
      clear p
      obtain ⟨l, od, fvs, rfl, q, ex, rfl, rl⟩ := (show ∃ a od fvs, x = V.ref a ∧ F1 a = some (exo a (He.ga X.K c) od) ∧ ExD F1 od fvs ∧ fvs.map (·.1) = ns ∧ RelL X.K F1 io1 ds (fvs.map (·.2)) from r)
      obtain rfl : u = Value.ref l := rx
      obtain ⟨v, hv, rv⟩ := (lookD_lookup (f := f) rl).1 d' e'
      obtain ⟨T, hno⟩ := hox c ho
      exact getexo_ok T hno I1 (a.sub _ _ q) (ex.mono a.sub) hv fun u' s2 I2 ru => ⟨v, H1, I2, ru, post_val p' a rv⟩
    · exact p.elim
  · unfold attrS at p
    split at p
    · rename_i c ns ds hi
      split at p
      · rename_i ho
        obtain ⟨d', e', p'⟩ := oV_some p
        clear p
        obtain ⟨l, dx, fs, rfl, q, rfl, rl⟩ := a.ins r hi
        obtain rfl : u = Value.ref l := rx
        obtain ⟨v, hv, rv⟩ := (lookD_lookup (f := f) rl).1 d' e'
        exact getattr_ok I1 q (hok c ho).1 (hok c ho).2 hv fun u' s2 I2 ru => ⟨v, H1, I2, ru, post_val p' a rv⟩
      · exact p.elim
    · exact p.elim
end
/-! ### isinstance -/
/-- what is asked of an exception class -/
structure XkC (K : PySem.W.Frag) (C : Addr) : Prop where
  cl : (PySem.W.clsIn K C).isSome = true
  ga : PySem.W.findIn K (.ref C) "__getattribute__" = some (some (.builtin "BaseException.__getattribute__"))
  gt : PySem.W.findIn K (.ref C) "__getattr__" = some none
  su : PySem.W.subIn K (.ref C) (.type "BaseException") = some true
  ha : PySem.W.findIn K (.ref C) "__class__" = some (some (.builtin "object.__class__"))
  hn : PySem.W.specialIn K (.builtin "object.__class__") "__get__" = some (some (.builtin "getset_descriptor.__get__"))
  ht : PySem.W.takesIn K (.builtin "object.__class__") = some true
  hm : PySem.W.mroIn K C (.type "object") = some true
/-- .. of an own class -/
structure OkC (K : PySem.W.Frag) (C : Addr) : Prop where
  cl : Cls K C
  ha : PySem.W.findIn K (.ref C) "__class__" = some (some (.builtin "object.__class__"))
  hn : PySem.W.specialIn K (.builtin "object.__class__") "__get__" = some (some (.builtin "getset_descriptor.__get__"))
  ht : PySem.W.takesIn K (.builtin "object.__class__") = some true
  hm : PySem.W.mroIn K C (.type "object") = some true
inductive TyG (K : PySem.W.Frag) (H : Hp) : V → Value → Prop where
  | base {x : V} {t : Value} (h : TyX K H x t) : TyG K H x t
  | exc {a C : Addr} {od : Option Addr} {fs : List (Str × V)} (e : H a = some (exo a C od)) (x : ExD H od fs) (c : XkC K C) : TyG K H (.ref a) (.ref C)
section
variable {X : Cx} {pins : List (Addr × Obj)} {σ : St} {H : Hp} {s : Shared}
theorem kit_ofG {x : V} {u t : Value} (I : Inv X pins σ H s) (rx : RelV x u) (ty : TyG X.K H x t) : ∃ P : Heap → Prop, PySem.W.KitX X.K u t P ∧ P s.heap ∧ u ≠ .builtin "__main__.__loader__#opaque" := by
  cases ty with
  | base h => exact kit_of I rx h
  | @exc a C od fs e x c =>
    cases (show u = Value.ref a from rx)
    obtain ⟨t1, ho⟩ := exo_at I.hok e
    cases od with
    | none => exact ⟨_, PySem.W.kitx_exc (od := none) c.cl c.ga c.gt c.su c.ha c.hn c.ht c.hm, ⟨ho, rfl, rfl, True.intro⟩, fun z => nomatch z⟩
    | some dx =>
      have x : H dx = some (exd dx fs) := x
      obtain ⟨mA, hns, hr⟩ := exd_at I.hok x
      obtain ⟨oD, ho2, hl⟩ := lookIn_ns hns
      exact ⟨_, PySem.W.kitx_exc (od := some oD) c.cl c.ga c.gt c.su c.ha c.hn c.ht c.hm, ⟨ho, rfl, rfl, ho2⟩, fun z => nomatch z⟩
end
def rIsiG (K : PySem.W.Frag) : List V → Hp → VK → Prop := fun xs H Q => ∃ (x c : V) (t u : Value) (b : Bool), xs = [x, c] ∧ ClsV c u ∧ TyG K H x t ∧ PySem.W.kitOne K t u = some b ∧ Q (.bl b) H
theorem call_isiG {X : Cx} : CallR X (.builtin "isinstance") (rIsiG X.K) := by
  intro pins s σ H xs us Q I r h
  obtain ⟨x, c, t, u, b, rfl, k, ty, e, q⟩ := h
  obtain ⟨u1, u2, rfl, r1, r2⟩ := vals2 r
  have e2 := k.eq r2
  subst e2
  obtain ⟨P, Z, p, hx⟩ := kit_ofG I r1 ty
  exact PySem.W.kia_one Z I.kIn p e hx fun tk => ⟨.bl b, H, I.tok tk, rfl, q⟩
/-- a value's kind: 0..6: None, bool, int, str, tuple, list, dict; 7: an own class; 8: an exception class -/
abbrev Kd := Nat × Str
def knd (M : Mem) : D → Option Kd
  | .non => some (0, "")
  | .bl _ => some (1, "")
  | .int _ => some (2, "")
  | .str _ => some (3, "")
  | .tup _ => some (4, "")
  | .ctup _ => some (4, "")
  | .lst _ => some (5, "")
  | .scr _ => some (5, "")
  | .dic _ _ => some (6, "")
  | .dit _ _ => some (6, "")
  | .obj c _ _ => some (7, c)
  | .exo c _ _ => some (8, c)
  | .fn _ => none
  | .cau _ _ _ _ _ => none
  | .ref i => match M[i]? with
    | some (.lst _) => some (5, "")
    | some (.dk _ _) => some (6, "")
    | some (.dt _ _) => some (6, "")
    | some (.ins c _ _) => some (7, c)
    | none => none
def tyV (K : PySem.W.Frag) : Kd → Value
  | (0, _) => .type "NoneType"
  | (1, _) => .type "bool"
  | (2, _) => .type "int"
  | (3, _) => .type "str"
  | (4, _) => .type "tuple"
  | (5, _) => .type "list"
  | (6, _) => .type "dict"
  | (_, c) => .ref (He.ga K c)
def KdOk (K : PySem.W.Frag) (k : Kd) : Prop := (k.1 = 7 → OkC K (He.ga K k.2)) ∧ (k.1 = 8 → XkC K (He.ga K k.2))
section
variable {K : PySem.W.Frag} {F H : Hp} {io : List Addr} {M : Mem}
theorem knd_sql {a : Addr} {vs : List V} (q : SqL K H a vs) : TyG K H (.ref a) (.type "list") := by
  rcases q with (q | ⟨o, q⟩) | ⟨o, its, n, hk, h1, _⟩
  · exact .base (.base (.lst q))
  · exact .base (.base (.frz q))
  · exact .base (.kList hk h1)
theorem knd_sqt {a : Addr} {vs : List V} (q : SqT K H a vs) : TyG K H (.ref a) (.type "tuple") := by
  rcases q with (q | ⟨o, q⟩) | ⟨o, its, n, hk, h1, _⟩
  · exact .base (.base (.tup q))
  · exact .base (.fTuple q)
  · exact .base (.kTuple hk h1)
theorem knd_ok {d : D} {v : V} {k : Kd} (h : HA K F io H M) (r : Rel K F io d v) (e : knd M d = some k) (ok : KdOk K k) : TyG K H v (tyV K k) := by
  cases d with
  | non => cases e; obtain rfl : v = V.non := r; exact .base (.base .non)
  | bl b => cases e; obtain rfl : v = V.bl b := r; exact .base (.base (.bl b))
  | int b => cases e; obtain rfl : v = V.int b := r; exact .base (.base (.int b))
  | str b => cases e; obtain rfl : v = V.str b := r; exact .base (.base (.str b))
  | tup xs =>
    cases e
    obtain ⟨a, vs, rfl, q, _⟩ := (show ∃ a vs, v = V.ref a ∧ F a = some (.tup vs) ∧ RelL K F io xs vs from r)
    exact .base (.base (.tup (h.sub _ _ q)))
  | ctup xs =>
    cases e
    obtain ⟨a, vs, rfl, q, _⟩ := (show ∃ a vs, v = V.ref a ∧ SqT K F a vs ∧ RelL K F io xs vs from r)
    exact knd_sqt (SqT.mono h.sub q)
  | lst xs =>
    cases e
    obtain ⟨a, vs, rfl, q, _⟩ := (show ∃ a vs, v = V.ref a ∧ F a = some (.lst vs) ∧ RelL K F io xs vs from r)
    exact .base (.base (.lst (h.sub _ _ q)))
  | scr ns =>
    cases e
    obtain ⟨a, rfl, q⟩ := (show ∃ a, v = V.ref a ∧ SqL K F a (ns.map V.int) from r)
    exact knd_sql (Same.seq h.sub q)
  | dic ks ds =>
    cases e
    obtain ⟨a, kvs, rfl, q, _⟩ := (show ∃ a kvs, v = V.ref a ∧ F a = some (.dK kvs) ∧ kvs.map (·.1) = ks ∧ RelL K F io ds (kvs.map (·.2)) from r)
    exact .base (.base (.dK (h.sub _ _ q)))
  | dit ks ds =>
    cases e
    obtain ⟨a, kvs, rfl, q, _⟩ := (show ∃ a kvs, v = V.ref a ∧ F a = some (.dT kvs) ∧ kvs.map (·.1) = ks ∧ RelL K F io ds (kvs.map (·.2)) from r)
    exact .base (.base (.dT (h.sub _ _ q)))
  | obj c ns ds =>
    cases e
    obtain ⟨a, dx, fvs, rfl, q, _⟩ := (show ∃ a dx fvs, v = V.ref a ∧ F a = some (.ins (He.ga K c) dx fvs) ∧ fvs.map (·.1) = ns ∧ RelL K F io ds (fvs.map (·.2)) from r)
    have c := ok.1 rfl
    exact .base (.base (.ins (h.sub _ _ q) c.cl c.ha c.hn c.ht c.hm))
  | exo c ns ds =>
    cases e
    obtain ⟨a, od, fvs, rfl, q, x, _⟩ := (show ∃ a od fvs, v = V.ref a ∧ F a = some (exo a (He.ga K c) od) ∧ ExD F od fvs ∧ fvs.map (·.1) = ns ∧ RelL K F io ds (fvs.map (·.2)) from r)
    exact .exc (h.sub _ _ q) (x.mono h.sub) (ok.2 rfl)
  | fn x => cases e
  | cau _ _ _ _ _ => cases e
  | ref i =>
    obtain ⟨a, rfl, q⟩ := (show ∃ a, v = V.ref a ∧ io[i]? = some a from r)
    rw [knd] at e
    cases hm : M[i]? with
    | none => rw [hm] at e; cases e
    | some o =>
      rw [hm] at e
      obtain ⟨a', e1, e2, e3⟩ := h.at_ i _ hm
      rw [q] at e1
      cases e1
      cases o with
      | lst xs =>
        cases e
        obtain ⟨vs, q2, _⟩ := e3
        exact .base (.base (.lst q2))
      | dk ks ds =>
        cases e
        obtain ⟨vs, q2, _⟩ := e3
        exact .base (.base (.dK q2))
      | dt ks ds =>
        cases e
        obtain ⟨vs, q2, _⟩ := e3
        exact .base (.base (.dT q2))
      | ins c ns ds =>
        cases e
        obtain ⟨dx, vs, q2, _⟩ := e3
        have c := ok.1 rfl
        exact .base (.base (.ins q2 c.cl c.ha c.hn c.ht c.hm))
end
/-- a class as it is named -/
def ClsN (K : PySem.W.Frag) (mg : Str → Option Value) (c : Str) (u : Value) : Prop := (u = .ref (He.ga K c) ∧ mg c = some u) ∨ (∃ T : String, u = .type T ∧ mg c = none ∧ bootBuiltins c = some u ∧ c ≠ "__name__")
def mIsi (t : Kd → Option Bool) (m : ME) : ME := fun env M => (mD m env M).bind fun d M1 => match (knd M1 d).bind t with
  | some b => .ok (.val (.bl b)) M1
  | none => .stuck
section
variable {X : Cx} {W : WX}
theorem pm_isi {c : Str} {e : Expr} {m : ME} {t : Kd → Option Bool} {p pc pos : Pos} (hg : Gl X "isinstance") (hm : X.mg "isinstance" = none) (hc : ∃ u, ClsN X.K X.mg c u) (hgc : Gl X c) (hdc : (c == ("__debug__" : Str)) = false) (he : PE X e (tE X.K W m)) (hn : noStar e = true)
    (ht : ∀ k b, t k = some b → KdOk X.K k ∧ ∃ u, ClsN X.K X.mg c u ∧ PySem.W.kitOne X.K (tyV X.K k) u = some b) : PE X (.Call (.Name "isinstance" p) [e, .Name c pc] [] pos) (tE X.K W (mIsi t m)) := by
  obtain ⟨u, hu⟩ := hc
  have one : ∀ u', ClsN X.K X.mg c u' → u' = u := fun u' h' => by
    rcases hu with ⟨rfl, h1⟩ | ⟨T, rfl, h1, h2, _⟩ <;> rcases h' with ⟨rfl, g1⟩ | ⟨T', rfl, g1, g2, _⟩
    · rfl
    · rw [h1] at g1; cases g1
    · rw [h1] at g1; cases g1
    · rw [h2] at g2; exact (Option.some.inj g2).symm
  have hv : ∃ v, ClsV v u ∧ PE X (.Name c pc) (tC v) := by
    rcases hu with ⟨rfl, h1⟩ | ⟨T, rfl, h1, h2, h3⟩
    · exact ⟨.ref _, .own _, pe_glob hgc h1 rfl hdc⟩
    · exact ⟨.ty T, .ty T, pe_bltn hgc h1 h2 rfl h3 hdc⟩
  obtain ⟨v, hv1, hv2⟩ := hv
  have ha : PA X [e, .Name c pc] (tCons (tD X.K W (mD m)) (tCons (tC v) tNil)) := pa_cons (pe_d he) (pa_cons hv2 pa_nil (by rfl)) (star_cons hn _ _)
  refine PE.imp' (pe_callB call_isiG hg hm (by rfl) ha (by decide) (by decide) (star_cons hn _ _) (by rfl)) fun σ H Q h => ?_
  refine tD_bind h fun d M1 F1 io1 H1 x env a er r p => ?_
  cases hk : (knd M1 d).bind t with
  | none => rw [hk] at p; exact p.elim
  | some b =>
    rw [hk] at p
    obtain ⟨k, h1, h2⟩ := Option.bind_eq_some_iff.mp hk
    obtain ⟨ok, u', hu', hb⟩ := ht k b h2
    obtain rfl := one u' hu'
    exact ⟨x, v, _, _, b, rfl, hv1, knd_ok a r h1 ok, hb, post_val p a rfl⟩
end
end Pc
set_option Elab.async false
set_option linter.all false
set_option maxRecDepth 100000
set_option maxHeartbeats 2000000
set_option autoImplicit false
/-! PcEn: enumerate over a tuple -/
namespace PcEn
open PySem
open PySem.Sem (wp)
section
variable {prog : Program} {w : World} {A : Around} {E : Value → Shared → Prop} {s : Shared}
/-- one turn, whatever the inner iterator is: T its state, behind the step T' -/
theorem next_item {e it : Addr} {i : Nat} {x old : Value} {T T' : Heap → Prop} {Q : Value → Shared → Prop}
    (step : ∀ R : Value → Shared → Prop, (∀ h', T' h' → Heap.SameBut it s.heap h' → R x { s with heap := h' }) → wpAny (model prog w) A (Builtin.SmallTypes.nextOf (.ref it)) R E s)
    (stay : ∀ h h' : Heap, T' h → (∀ o, h.get? it = some o → h'.get? it = some o) → T' h') (he : IsEnum s.heap e it i old) (hit : ∃ o, s.heap.get? it = some o) (hne : e ≠ it)
    (hQ : ∀ h', IsEnumOut h' e it ((i : Int) + 1) x s.heap.objs.size → T' h' →
      h'.get? s.heap.objs.size = some { cls := .type "tuple", data := .seq #[.int i s.toks, x] } → h'.objs.size = s.heap.objs.size + 1 →
      (∀ b o, b ≠ e → b ≠ it → s.heap.get? b = some o → h'.get? b = some o) → Q (.ref s.heap.objs.size) { s with heap := h', toks := s.toks + 1 }) :
    wpAny (model prog w) A (Builtin.«enumerate.__next__» ⟨[.ref e], []⟩) (fun fin s' => ∃ v, fin = .done (.ret v) ∧ Q v s') E s := by
  obtain ⟨hp, g, d, tk, os⟩ := s
  show wpAny _ _ (field (.ref e) 2 >>= _) _ _ _
  refine wpAny_bind (wpAny_field he rfl (x := .ref it) rfl (wpAny_bind (step _ fun h1 t1 s1 => ?_)))
  have e1 : IsEnum h1 e it i old := (s1.2 e hne).trans he
  show wpAny _ _ (field (.ref e) 3 >>= _) _ _ ⟨h1, g, d, tk, os⟩
  refine wpAny_bind (wpAny_field e1 rfl (x := rawInt i) rfl ?_)
  show wpAny _ _ (field (.ref e) 4 >>= _) _ _ ⟨h1, g, d, tk, os⟩
  refine wpAny_bind (wpAny_field e1 rfl (x := .none) rfl ?_)
  show wpAny _ _ (mkInt i >>= _) _ _ ⟨h1, g, d, tk, os⟩
  refine wpAny_bind (wpAny_mkInt ?_)
  show wpAny _ _ (setField (.ref e) 3 (rawInt ((i : Int) + 1)) >>= _) _ _ ⟨h1, g, d, tk + 1, os⟩
  refine wpAny_bind (wpAny_setField_rec e1 (by simp) fun h2 (e2 : IsEnum h2 e it ((i : Int) + 1) old) (s2 : Heap.SameBut e h1 h2) => ?_)
  show wpAny _ _ (setField (.ref e) 4 .none >>= _) _ _ ⟨h2, g, d, tk + 1, os⟩
  refine wpAny_bind (wpAny_setField_rec e2 (by simp) fun h3 (e3 : IsEnum h3 e it ((i : Int) + 1) old) (s3 : Heap.SameBut e h2 h3) => ?_)
  show wpAny _ _ (newTuple [.int i tk, x] >>= _) _ _ ⟨h3, g, d, tk + 1, os⟩
  refine wpAny_bind (wpAny_newTuple ?_)
  have sz : h3.objs.size = hp.objs.size := by rw [s3.1, s2.1, s1.1]
  have el : e < hp.objs.size := Heap.lt_size he
  have e4 : IsEnum (h3.push { cls := .type "tuple", data := .seq #[.int i tk, x] }) e it ((i : Int) + 1) old := Heap.get?_push_of_some _ e3
  have t4 : T' (h3.push { cls := .type "tuple", data := .seq #[.int i tk, x] }) := stay _ _ t1 fun o q => Heap.get?_push_of_some _ (s3.extBut it o (Ne.symm hne) (s2.extBut it o (Ne.symm hne) q))
  have q4 : (h3.push { cls := .type "tuple", data := .seq #[.int i tk, x] }).get? hp.objs.size = some { cls := .type "tuple", data := .seq #[.int i tk, x] } := by rw [← sz]; exact Heap.get?_push_size _ rfl
  have z4 : (h3.push { cls := .type "tuple", data := .seq #[.int i tk, x] }).objs.size = hp.objs.size + 1 := by rw [Heap.size_push, sz]
  have k4 : ∀ b o, b ≠ e → b ≠ it → hp.get? b = some o → (h3.push { cls := .type "tuple", data := .seq #[.int i tk, x] }).get? b = some o := fun b o n1 n2 q =>
    Heap.get?_push_of_some _ (s3.extBut b o n1 (s2.extBut b o n1 (s1.extBut b o n2 q)))
  rw [sz]
  generalize h3.push { cls := .type "tuple", data := .seq #[.int i tk, x] } = h4 at e4 t4 q4 z4 k4
  show wpAny _ _ (Builtin.SmallTypes.ownedTupleIsFree (.ref e) >>= _) _ _ ⟨h4, g, d, tk + 1, os⟩
  refine wpAny_bind ?_
  unfold Builtin.SmallTypes.ownedTupleIsFree
  refine wpAny_bind (wpAny_field e4 rfl (x := .none) rfl (wpAny_pure ?_))
  simp only [if_true]
  refine wpAny_bind (wpAny_rule (wpAny_bind (wpAny_field e4 rfl (x := old) rfl ?_)))
  refine wpAny_bind (wpAny_setField_rec e4 (by simp) fun h5 (e5 : IsEnum h5 e it ((i : Int) + 1) x) (s5 : Heap.SameBut e h4 h5) => ?_)
  show wpAny _ _ (Builtin.SmallTypes.ownedTupleHandOut (.ref e) (.ref hp.objs.size) >>= _) _ _ ⟨h5, g, d, tk + 1, os⟩
  refine wpAny_bind ?_
  unfold Builtin.SmallTypes.ownedTupleHandOut
  refine wpAny_bind (wpAny_setField_rec e5 (by simp) fun h6 (e6 : IsEnumOut h6 e it ((i : Int) + 1) x hp.objs.size) (s6 : Heap.SameBut e h5 h6) => ?_)
  refine wpAny_setField_rec e6 (by simp) fun h7 (e7 : IsEnumOut h7 e it ((i : Int) + 1) x hp.objs.size) (s7 : Heap.SameBut e h6 h7) => ?_
  have up : ∀ b o, b ≠ e → h4.get? b = some o → h7.get? b = some o := fun b o n q => s7.extBut b o n (s6.extBut b o n (s5.extBut b o n q))
  exact wpAny_bind (wpAny_letGo (wpAny_pure ⟨_, rfl, hQ h7 e7 (stay _ _ t4 fun o q => up it o (Ne.symm hne) q) (up _ _ (Nat.ne_of_gt el) q4) (by rw [s7.1, s6.1, s5.1, z4]) fun b o n1 n2 q => up b o n1 (k4 b o n1 n2 q)⟩))
theorem pyNext_item {e it l : Addr} {i : Nat} {items : Array Value} {x old : Value} {Q : Option Value → Shared → Prop}
    (he : IsEnum s.heap e it i old) (hit : s.heap.IsTupleIter it l i) (hl : s.heap.IsTuple l items) (hx : items[i]? = some x) (hne : e ≠ it)
    (hQ : ∀ h', IsEnumOut h' e it ((i : Int) + 1) x s.heap.objs.size → h'.IsTupleIter it l (i + 1) →
      h'.get? s.heap.objs.size = some { cls := .type "tuple", data := .seq #[.int i s.toks, x] } → h'.objs.size = s.heap.objs.size + 1 →
      (∀ b o, b ≠ e → b ≠ it → s.heap.get? b = some o → h'.get? b = some o) → Q (some (.ref s.heap.objs.size)) { s with heap := h', toks := s.toks + 1 }) :
    wpAny (model prog w) A (pyNext (.ref e)) Q E s := by
  have hT : s.TypeIs (.ref e) "enumerate" := ⟨_, he, rfl⟩
  obtain ⟨o, ho, _⟩ := id hit
  unfold pyNext
  exact wpAny_bind (wpAny_attempt (wpAny_callSpecial?_slot (name := Str.ofString "__next__") hT F.slot_enumerate_next
    (wpAny_call_entry F.slot_enumerate_next hT F.entry_enumerate_next
      (next_item (T := fun h => h.IsTupleIter it l i) (T' := fun h => h.IsTupleIter it l (i + 1)) (fun R hR => RZ.nextOf_tuple_item hit hl hx hR) (fun h h' t k => t.at fun o q => k o q) he ⟨o, ho⟩ hne fun h' a b c d k => wpAny_pure (hQ h' a b c d k)) (F.args_enumerate_next_1 _))))
theorem pyNext_end {e it l : Addr} {i : Nat} {items : Array Value} {old : Value} {Q : Option Value → Shared → Prop} (hh : A.handled = none)
    (he : IsEnum s.heap e it i old) (hit : s.heap.IsTupleIter it l i) (hl : s.heap.IsTuple l items) (hx : items[i]? = none)
    (hQ : ∀ h', Heap.ExtBut it s.heap h' → Q none { s with heap := h' }) : wpAny (model prog w) A (pyNext (.ref e)) Q E s := by
  have hT : s.TypeIs (.ref e) "enumerate" := ⟨_, he, rfl⟩
  unfold pyNext
  refine wpAny_bind (wpAny_attempt (wpAny_callSpecial?_slot (name := Str.ofString "__next__") hT F.slot_enumerate_next
    (wpAny_call_entry F.slot_enumerate_next hT F.entry_enumerate_next ?_ (F.args_enumerate_next_1 _))))
  show wpAny _ _ (field (.ref e) 2 >>= _) _ _ _
  refine wpAny_bind (wpAny_field he rfl (x := .ref it) rfl (wpAny_bind (RZ.nextOf_tuple_end hh hit hl hx fun h' x he' hx' => ?_)))
  obtain ⟨o, ho, hc⟩ := hx'
  exact wpAny_bind (wpAny_isInstance (T := "StopIteration") (b := true) ⟨o, ho, hc⟩ isSubtype_stop (wpAny_pure (hQ _ he')))
theorem meets_new (l : Addr) (items : Array Value) :
    Meets (Builtin.«enumerate.__new__» ⟨[.type "enumerate", .ref l], []⟩) (fun _ R s => s.heap.IsTuple l items ∧
      R (.ok (.ret (.ref (s.heap.push { cls := .type "tuple_iterator", data := .fields #[.ref l, .int 0 0] }).objs.size)))
        { s with heap := (s.heap.push { cls := .type "tuple_iterator", data := .fields #[.ref l, .int 0 0] }).push { cls := .type "enumerate", data := .fields #[.none, .bool false, .ref s.heap.objs.size, rawInt 0, .none, .none] } }) :=
  .of_wp fun prog w A R s h => by
    obtain ⟨hp, g, d, tk, os⟩ := s; obtain ⟨hl, h⟩ := h
    have hsub := sub_enumerate
    have hL : Heap.IsTuple (Shared.heap ⟨hp, g, d, tk, os⟩) l items := hl
    wp_walk using wpAny_pyIter_tuple hL
    refine wpAny_stack_any fun st => wpAny_pure ?_
    split
    · rename_i c _ _ _ _ _
      cases (c == Value.type "enumerate")
      · wp_walk using wpAny_pyIter_tuple hL
        exact ⟨_, rfl, h⟩
      · wp_walk using wpAny_pyIter_tuple hL
        exact ⟨_, rfl, h⟩
    · wp_walk using wpAny_pyIter_tuple hL
      exact ⟨_, rfl, h⟩
theorem call_enum {l : Addr} {items : Array Value} {Q : Value → Shared → Prop} (hL : s.heap.IsTuple l items)
    (h : ∀ h', IsEnum h' (s.heap.objs.size + 1) s.heap.objs.size 0 .none → h'.IsTupleIter s.heap.objs.size l 0 → h'.objs.size = s.heap.objs.size + 2 →
      (∀ b o, s.heap.get? b = some o → h'.get? b = some o) → Q (.ref (s.heap.objs.size + 1)) { s with heap := h' }) :
    wpAny (model prog w) A (call (.type "enumerate") [.ref l]) Q E s := by
  refine callType_new F.called_enumerate (by decide) (F.typeCall_enumerate_1 _) (F.newCall_enumerate_1 _) (fun obj => F.args_object_init_2 obj _) F.entry_enumerate_new
    (meets_new l items) ⟨hL, ?_⟩
  have hz : (s.heap.push { cls := .type "tuple_iterator", data := .fields #[.ref l, .int 0 0] }).objs.size = s.heap.objs.size + 1 := Heap.size_push ..
  show _ ∧ _
  rw [hz]
  have he := Heap.get?_push_size (s.heap.push { cls := .type "tuple_iterator", data := .fields #[.ref l, .int 0 0] })
    (o := { cls := .type "enumerate", data := .fields #[.none, .bool false, .ref s.heap.objs.size, rawInt 0, .none, .none] }) rfl
  rw [hz] at he
  exact ⟨⟨_, he, rfl⟩, h _ he ⟨_, Heap.get?_push_of_some _ (Heap.get?_push_size _ rfl), rfl, rfl⟩ (by rw [Heap.size_push, hz]) fun b o x => Heap.get?_push_of_some _ (Heap.get?_push_of_some _ x)⟩
end
end PcEn
set_option Elab.async false
set_option linter.all false
set_option maxRecDepth 100000
set_option maxHeartbeats 1000000
set_option autoImplicit false
/-! PcIt: enumerate, zip, texts: what is walked -/
namespace Pc
open PySem PySem.Spec PyProof.Rows L2

/-! ### enumerate(tuple) -/
def IteT (K : PySem.W.Frag) (a : Addr) : It :=
  ⟨fun i H => ∃ (xs : List V) (x : V), SqT K H a xs ∧ xs[i]? = some x, fun i H v H' => ∃ T x, v = .ref T ∧ H T = none ∧ H' = upd H T (.tup [.int (i : Nat), x]) ∧ ∀ xs, SqT K H a xs → xs[i]? = some x, fun i H => ∃ xs : List V, SqT K H a xs ∧ xs.length ≤ i⟩
theorem turn_enumT {P : Program} {w : World} {K : PySem.W.Frag} {elts : List Expr} {kk : Nat} {tpos : Pos} (a e it : Addr) :
    Turn P w K (.Tuple elts kk tpos) (IteT K a) [e, it] e (fun i h => (∃ old, IsEnum h e it ((i : Nat) : Int) old) ∧ h.IsTupleIter it a i ∧ e ≠ it) where
  mem := by simp
  obj := fun i h st b hb => by
    obtain ⟨⟨old, he⟩, ⟨o, ho, hc, hd⟩, _⟩ := st
    have e' : b = e ∨ b = it := by simpa using hb
    rcases e' with z | z
    · rw [z]; exact ⟨_, he, fun v q => nomatch q⟩
    · rw [z]; exact ⟨o, ho, fun v q => by rw [hd] at q; cases q⟩
  keep := fun i h h' st k => let ⟨⟨old, he⟩, hi, hne⟩ := st; ⟨⟨old, k e (by simp) _ he⟩, hi.at fun o q => k it (by simp) o q, hne⟩
  item := by
    intro X hP hw hK hc i pins s σ H E I hf st hg
    subst hP hw hK
    obtain ⟨⟨old, he⟩, hit, hne⟩ := st
    obtain ⟨xs, x, hq, hx⟩ := hg
    obtain ⟨its, rv, p, hz⟩ := I.tuple hq
    obtain ⟨u, hu, ru⟩ := rv.get hx
    have hel : e < s.heap.objs.size := Heap.lt_size he
    have hil : it < s.heap.objs.size := by obtain ⟨_, q, _⟩ := hit; exact Heap.lt_size q
    refine PcEn.pyNext_item he hit (show s.heap.IsTuple a its.toArray from p) (x := u) (by simpa using hu) hne fun h' ho hit' hT hsz hk => ?_
    refine ⟨_, rfl, wpAny_letOwnedTupleGo_enum (s := { s with heap := h', toks := s.toks + 1 }) ho fun h'' he' sb => ?_⟩
    have hT2 : h''.get? s.heap.objs.size = some { cls := .type "tuple", data := .seq #[.int i s.toks, u] } := (sb.2 _ (Nat.ne_of_gt hel)).trans hT
    have new : ObjOk X.prog X.w (upd H s.heap.objs.size (.tup [.int (i : Nat), x])) h'' s.heap.objs.size (.tup [.int (i : Nat), x]) :=
      ⟨by show 2 ≤ sizeLine; decide, [.int i s.toks, u], .cons ⟨_, rfl⟩ (.cons ru .nil), ⟨_, hT2, rfl, _, rfl⟩⟩
    have I1 : Inv X pins σ (upd H s.heap.objs.size (.tup [.int (i : Nat), x])) { s with heap := h'', toks := s.toks + 1 } :=
      I.turnedNew (ch := [e, it]) (fun b ob hb q => (sb.2 b (fun z => hb (by simp [z]))).trans (hk b ob (fun z => hb (by simp [z])) (fun z => hb (by simp [z])) q)) hf (Nat.le_refl _) new
    refine ⟨.ref s.heap.objs.size, _, I1, rfl, ⟨_, x, rfl, I.hok.fresh (Nat.le_refl _), rfl, fun ys hy => by rw [I.tuple_inj hy hq]; exact hx⟩, ⟨⟨u, ?_⟩, hit'.at fun o q => (sb.2 it (Ne.symm hne)).trans q, hne⟩, fun b hb => ?_⟩
    · have e1 : ((i + 1 : Nat) : Int) = (i : Int) + 1 := by omega
      rw [e1]; exact he'
    · have hb' : b < s.heap.objs.size := by
        have e' : b = e ∨ b = it := by simpa using hb
        rcases e' with z | z
        · rw [z]; exact hel
        · rw [z]; exact hil
      rw [upd_ne (Nat.ne_of_lt hb')]
      exact (hf b hb).1
  done := by
    intro X hP hw hK hc i pins s σ H E I hf st hg
    subst hP hw hK
    obtain ⟨⟨old, he⟩, hit, hne⟩ := st
    obtain ⟨xs, hq, hx⟩ := hg
    obtain ⟨its, rv, p, hz⟩ := I.tuple hq
    obtain ⟨f0, f1, f2, f3, f4, f5⟩ := hf it (by simp)
    have hl := rv.length
    exact PcEn.pyNext_end (I.ok.hd hc) he hit (show s.heap.IsTuple a its.toArray from p) (by simp; omega) fun h' eb => ⟨rfl, I.turned (t' := s.toks) (fun b o hb q => eb b o hb q) f0 f1 f3 f4 f5⟩
  self := fun A i s Q E st h => let ⟨⟨_, he⟩, _⟩ := st; wpAny_pyIter_enum he h
def iEnumA (K : PySem.W.Frag) (ta : TA) : TI := fun σ H R => ta σ H fun vs H1 => ∃ a xs, vs = [.ref a] ∧ ((SqL K H1 a xs ∧ R (Ite K a) H1) ∨ (SqT K H1 a xs ∧ R (IteT K a) H1))
theorem pi_enumA {X : Cx} {e : Expr} {ta : TA} {p pos tpos : Pos} {elts : List Expr} {kk : Nat} (hg : Gl X "enumerate") (hm : X.mg "enumerate" = none) (ha : PA X [e] ta) (hs : starEach [e] X.env = [(false, eval e X.env)]) :
    PI X (.Tuple elts kk tpos) (.Call (.Name "enumerate" p) [e] [] pos) (iEnumA X.K ta) := by
  refine ⟨fun pins s σ H R I h => ?_⟩
  refine Call_ (ld_blt I hg hm boot_enumerate (PyProof.Rows.callWith_type1 (thn (ha.run pos pins s σ H _ I h) fun us s1 ⟨vs, H1, I1, r1, q1⟩ => ?_) hs rfl))
  obtain ⟨a, xs, ex, q⟩ := q1
  subst ex
  cases r1 with
  | cons r rr =>
    cases rr
    cases r
    have fp : ∀ b ∈ [s1.heap.objs.size + 1, s1.heap.objs.size], s1.heap.objs.size ≤ b := fun b hb => by
      have e' : b = s1.heap.objs.size + 1 ∨ b = s1.heap.objs.size := by simpa using hb
      rcases e' with z | z
      · rw [z]; exact Nat.le_add_right _ _
      · rw [z]; exact Nat.le_refl _
    rcases q with ⟨hq, q⟩ | ⟨hq, q⟩
    · obtain ⟨its, rv, p', hz⟩ := I1.list hq
      refine call_enumerate_list p'.isList fun h' he hit hsz hk => wpAny_pyIter_enum he ?_
      have I2 : Inv X pins σ H1 { s1 with heap := h' } := I1.kept (t' := s1.toks) hk
      exact ⟨s1.heap.objs.size + 1, [s1.heap.objs.size + 1, s1.heap.objs.size], _, _, H1, rfl, I2, turn_enum a (s1.heap.objs.size + 1) s1.heap.objs.size, ⟨⟨.none, he⟩, hit, Nat.succ_ne_self _⟩, fun b hb => I1.fpOk (fp b hb) (I1.hok.fresh (fp b hb)), q⟩
    · obtain ⟨its, rv, p', hz⟩ := I1.tuple hq
      refine PcEn.call_enum (show s1.heap.IsTuple a its.toArray from p') fun h' he hit hsz hk => wpAny_pyIter_enum he ?_
      have I2 : Inv X pins σ H1 { s1 with heap := h' } := I1.kept (t' := s1.toks) hk
      exact ⟨s1.heap.objs.size + 1, [s1.heap.objs.size + 1, s1.heap.objs.size], _, _, H1, rfl, I2, turn_enumT a (s1.heap.objs.size + 1) s1.heap.objs.size, ⟨⟨.none, he⟩, hit, Nat.succ_ne_self _⟩, fun b hb => I1.fpOk (fp b hb) (I1.hok.fresh (fp b hb)), q⟩
/-! ### as functions -/
def gEnu (d : D) : GI := fun M k => match seqA M d with
  | some xs => some (xs[k]?.map fun x => .tup [.int (k : Nat), x])
  | none => none
def enuS (ds : List D) (M : Mem) : R (Nat × GI) := match ds with
  | [d] => (match seqA M d with
    | some xs => .ok (xs.length, gEnu d) M
    | none => .stuck)
  | _ => .stuck
def mIEnu (ms : MDs) : MI := fun env M => (ms env M).bind enuS
/-- a sequence as it stands later -/
theorem seqA_later {K : PySem.W.Frag} {F H : Hp} {io : List Addr} {M : Mem} {d : D} {a : Addr} {xs : List D} (ha : HA K F io H M) (r : Rel K F io d (.ref a)) (e : seqA M d = some xs) :
    (Pc.seqT d ≠ none → ∃ vs, SqT K H a vs ∧ RelL K F io xs vs) ∧ (Pc.seqT d = none → ∃ vs, SqL K H a vs ∧ RelL K F io xs vs) := by
  constructor
  · intro h
    cases ht : Pc.seqT d with
    | none => exact absurd ht h
    | some ys =>
      have : xs = ys := by
        cases d <;> first | (cases ht; cases e; rfl) | cases ht
      subst this
      obtain ⟨b, vs, e1, e2, e3⟩ := ha.seqT r ht
      cases e1
      exact ⟨vs, e2, e3⟩
  · intro h
    have nt : Pc.seqA M d = seqL M d := by cases d <;> first | rfl | cases h
    rw [nt] at e
    obtain ⟨vs, e1, e2⟩ := sqL_inj ha r e
    exact ⟨vs, .of e1, e2⟩
theorem enu_rel {K : PySem.W.Frag} {F H : Hp} {io : List Addr} {M : Mem} {k : Nat} {y : D} {v : V} {T : Addr} (ha : HA K F io H M) (hT : H T = none) (r : Rel K F io y v) :
    ∃ F2, HA K F2 io (upd H T (.tup [.int (k : Nat), v])) M ∧ Ex F io H F2 io (upd H T (.tup [.int (k : Nat), v])) ∧ Rel K F2 io (.tup [.int (k : Nat), y]) (.ref T) := by
  obtain ⟨h1, h2, h3⟩ := ha.newF (o := .tup [.int (k : Nat), v]) hT
  exact ⟨_, h1, h2, T, _, rfl, upd_same, .int (k : Nat), [v], rfl, rfl, v, [], rfl, Rel.mono h3 (fun _ _ z => z) _ _ r, rfl⟩
theorem enu_it {K : PySem.W.Frag} {F : Hp} {io : List Addr} {d : D} {a : Addr} (r : Rel K F io d (.ref a)) : ItOk K F io (if Pc.seqT d = none then Ite K a else IteT K a) (gEnu d) := by
  intro F1 io1 H1 M1 h1 hs hi k
  have r1 := Rel.mono hs hi d _ r
  unfold gEnu
  cases z : seqA M1 d with
  | none => exact ⟨fun q => (by cases q), fun y q => (by cases q)⟩
  | some ys =>
    obtain ⟨l1, l2⟩ := seqA_later h1 r1 z
    by_cases ht : Pc.seqT d = none
    · rw [if_pos ht]
      obtain ⟨vs, e2, e3⟩ := l2 ht
      refine ⟨fun q => ?_, fun y q => ?_⟩
      · have q' : ys[k]? = none := by
          have := Option.some.inj q
          simpa using this
        exact ⟨vs, e2, by rw [← e3.length]; exact List.getElem?_eq_none_iff.mp q'⟩
      · obtain ⟨y0, q1, q2⟩ : ∃ y0, ys[k]? = some y0 ∧ D.tup [.int (k : Nat), y0] = y := by
          have := Option.some.inj q
          simpa using this
        subst q2
        obtain ⟨v, g1, g2⟩ := e3.get q1
        refine ⟨⟨vs, v, e2, g1⟩, fun x H' ⟨T, v', ex, hT, eh, yy⟩ => ?_⟩
        subst ex eh
        have := yy vs e2
        rw [g1] at this
        cases this
        exact enu_rel h1 hT g2
    · rw [if_neg ht]
      obtain ⟨vs, e2, e3⟩ := l1 ht
      refine ⟨fun q => ?_, fun y q => ?_⟩
      · have q' : ys[k]? = none := by
          have := Option.some.inj q
          simpa using this
        exact ⟨vs, e2, by rw [← e3.length]; exact List.getElem?_eq_none_iff.mp q'⟩
      · obtain ⟨y0, q1, q2⟩ : ∃ y0, ys[k]? = some y0 ∧ D.tup [.int (k : Nat), y0] = y := by
          have := Option.some.inj q
          simpa using this
        subst q2
        obtain ⟨v, g1, g2⟩ := e3.get q1
        refine ⟨⟨vs, v, e2, g1⟩, fun x H' ⟨T, v', ex, hT, eh, yy⟩ => ?_⟩
        subst ex eh
        have := yy vs e2
        rw [g1] at this
        cases this
        exact enu_rel h1 hT g2
section
variable {X : Cx} {W : WX} {tg e : Expr}
theorem im_enu {ms : MDs} {a : Expr} {p pos tpos : Pos} {elts : List Expr} {kk : Nat} (hg : Gl X "enumerate") (hm : X.mg "enumerate" = none) (ha : PA X [a] (tDs X.K W ms)) (hn : noStar a = true) :
    PI X (.Tuple elts kk tpos) (.Call (.Name "enumerate" p) [a] [] pos) (tI X.K W (mIEnu ms)) := PI.imp' (pi_enumA hg hm ha (by rw [star_cons hn]; rfl)) fun σ H Q h => by
  refine tDs_mono (tI_tDs (k := enuS) h) fun x H1 ⟨ds, M1, F1, io1, a, r, p⟩ => ?_
  unfold enuS at p
  split at p
  · rename_i d
    obtain ⟨v, rfl, r1⟩ := relL1 r
    split at p
    · rename_i xs hx
      obtain ⟨b, vs, rfl, e2, e3⟩ := a.seqA r1 hx
      obtain ⟨l1, l2⟩ := seqA_later a r1 hx
      have pi := p F1 io1 H1 _ a .refl (enu_it r1)
      by_cases ht : Pc.seqT d = none
      · obtain ⟨us, g1, g2⟩ := l2 ht
        rw [if_pos ht] at pi
        exact ⟨b, us, rfl, .inl ⟨g1, pi⟩⟩
      · obtain ⟨us, g1, g2⟩ := l1 ht
        rw [if_neg ht] at pi
        exact ⟨b, us, rfl, .inr ⟨g1, pi⟩⟩
    · exact p.elim
  · exact p.elim
end
/-! ### a list, a tuple, a text -/
def gStr (x : Str) : GI := fun _ k => some (x.cps[k]?.map fun c => .str ⟨#[c]⟩)
def anyI (d : D) (M : Mem) : R (Nat × GI) := match d with
  | .str x => .ok (x.cps.size, gStr x) M
  | d => (match seqA M d with
    | some xs => .ok (xs.length, gSeq d) M
    | none => .stuck)
def mIAny (m : ME) : MI := fun env M => (mD m env M).bind anyI
theorem str_it {K : PySem.W.Frag} {F : Hp} {io : List Addr} (x : Str) : ItOk K F io (Its x) (gStr x) := by
  intro F1 io1 H1 M1 h1 hs hi k
  unfold gStr
  refine ⟨fun q => ?_, fun y q => ?_⟩
  · have q' : x.cps[k]? = none := by
      have := Option.some.inj q
      simpa using this
    exact Array.getElem?_eq_none_iff.mp q'
  · obtain ⟨c, q1, q2⟩ : ∃ c, x.cps[k]? = some c ∧ D.str ⟨#[c]⟩ = y := by
      have := Option.some.inj q
      simpa using this
    subst q2
    refine ⟨(Array.getElem?_eq_some_iff.mp q1).1, fun v H' ⟨eh, c', e1, e2⟩ => ?_⟩
    subst eh e2
    rw [q1] at e1
    cases e1
    exact ⟨F1, h1, .refl, rfl⟩
section
variable {X : Cx} {W : WX} {tg e : Expr}
theorem pi_any {l : Expr} {tl : TE} (hl : PE X l tl) : PI X tg l (fun σ H R => tl σ H fun v H1 => (∃ x, v = .str x ∧ R (Its x) H1) ∨ ∃ a, v = .ref a ∧ ((∃ xs, SqL X.K H1 a xs) ∧ R (Itl X.K a) H1 ∨ (∃ xs, SqT X.K H1 a xs) ∧ R (Itt X.K a) H1)) := by
  refine ⟨fun pins s σ H R I h => ?_⟩
  refine thn (hl.run pins s σ H _ I h) fun v s1 ⟨y, H1, I1, r1, q1⟩ => ?_
  rcases q1 with ⟨x, ex, q⟩ | ⟨a, e, q⟩
  · subst ex
    obtain ⟨t, rfl⟩ := r1
    cases ha : x.cps.all (· < 128)
    · exact wpAny_pyIter_wide ha (pi_one (tk := s1.toks) I1 _ (turn_str _ x t "str_iterator" (.inr rfl)) ⟨_, Heap.get?_push_size _ rfl, rfl, rfl⟩ q)
    · exact wpAny_pyIter_ascii ha (pi_one (tk := s1.toks) I1 _ (turn_str _ x t "str_ascii_iterator" (.inl rfl)) ⟨_, Heap.get?_push_size _ rfl, rfl, rfl⟩ q)
  · subst e
    cases r1
    rcases q with ⟨⟨xs, hq⟩, q⟩ | ⟨⟨xs, hq⟩, q⟩
    · obtain ⟨its, rv, p, hz⟩ := I1.list hq
      exact wpAny_pyIter_list p.isList (pi_one (tk := s1.toks) I1 _ (turn_list a _) ⟨_, Heap.get?_push_size _ rfl, rfl, rfl⟩ q)
    · obtain ⟨its, rv, p, hz⟩ := I1.tuple hq
      exact wpAny_pyIter_tuple (show s1.heap.IsTuple a its.toArray from p) (pi_one (tk := s1.toks) I1 _ (turn_tuple a _) ⟨_, Heap.get?_push_size _ rfl, rfl, rfl⟩ q)
theorem im_any {m : ME} (h : PE X e (tE X.K W m)) : PI X tg e (tI X.K W (mIAny m)) := PI.imp' (pi_any (pe_d h)) fun σ H Q h => by
  refine PE_t_mono (tI_tD (k := anyI) h) fun x H1 ⟨d, M1, F1, io1, a, r, p⟩ => ?_
  unfold anyI at p
  split at p
  · rename_i z
    exact .inl ⟨z, r, p F1 io1 H1 _ a .refl (str_it z)⟩
  · skip
    split at p
    · rename_i xs q
      obtain ⟨b, vs, e1, e2, e3⟩ := a.seqA r q
      subst e1
      refine .inr ⟨b, rfl, ?_⟩
      obtain ⟨l1, l2⟩ := seqA_later a r q
      cases ht : Pc.seqT d with
      | some ys =>
        obtain ⟨us, g1, g2⟩ := l1 (by rw [ht]; exact fun z => nomatch z)
        exact .inr ⟨⟨us, g1⟩, p F1 io1 H1 _ a .refl (sqT_it r ht)⟩
      | none =>
        have nt : Pc.seqA M1 d = seqL M1 d := by cases d <;> first | rfl | cases ht
        rw [nt] at q
        obtain ⟨us, g1, g2⟩ := l2 ht
        exact .inl ⟨⟨us, g1⟩, p F1 io1 H1 _ a .refl (seq_it a r q)⟩
    · exact p.elim
end
end Pc
set_option Elab.async false
set_option linter.all false
set_option maxRecDepth 100000
set_option maxHeartbeats 2000000
set_option autoImplicit false
/-! PcZ1: zip of two lists or two tuples -/
namespace Pc
open PySem PySem.Spec PyProof.Rows L2 RZ
def zipAt (xs ys : List D) (k : Nat) : Option D := match xs[k]?, ys[k]? with
  | some x, some y => some (.tup [x, y])
  | _, _ => none
def gZip (d e : D) : GI := fun M k => match seqA M d, seqA M e with
  | some xs, some ys => some (zipAt xs ys k)
  | _, _ => none
def zipS (ds : List D) (M : Mem) : R (Nat × GI) := match ds with
  | [d, e] => (match seqA M d, seqA M e with
    | some xs, some ys => if (seqT d).isNone = (seqT e).isNone then .ok (min xs.length ys.length, gZip d e) M else .stuck
    | _, _ => .stuck)
  | _ => .stuck
def mIZip (ms : MDs) : MI := fun env M => (ms env M).bind zipS
theorem zip_rel {K : PySem.W.Frag} {F H : Hp} {io : List Addr} {M : Mem} {y z : D} {v w : V} {T : Addr} (ha : HA K F io H M) (hT : H T = none) (r : Rel K F io y v) (r2 : Rel K F io z w) :
    ∃ F2, HA K F2 io (upd H T (.tup [v, w])) M ∧ Ex F io H F2 io (upd H T (.tup [v, w])) ∧ Rel K F2 io (.tup [y, z]) (.ref T) := by
  obtain ⟨h1, h2, h3⟩ := ha.newF (o := .tup [v, w]) hT
  exact ⟨_, h1, h2, T, _, rfl, upd_same, v, [w], rfl, Rel.mono h3 (fun _ _ z => z) _ _ r, w, [], rfl, Rel.mono h3 (fun _ _ z => z) _ _ r2, rfl⟩
theorem zipAt_none {xs ys : List D} {k : Nat} (h : zipAt xs ys k = none) : xs.length ≤ k ∨ ys.length ≤ k := by
  unfold zipAt at h
  split at h
  · cases h
  · rename_i n
    by_cases h1 : k < xs.length
    · by_cases h2 : k < ys.length
      · exact absurd (List.getElem?_eq_getElem h2) (n _ _ (List.getElem?_eq_getElem h1))
      · exact .inr (by omega)
    · exact .inl (by omega)
theorem zipAt_some {xs ys : List D} {k : Nat} {z : D} (h : zipAt xs ys k = some z) : ∃ x y, xs[k]? = some x ∧ ys[k]? = some y ∧ D.tup [x, y] = z := by
  unfold zipAt at h
  split at h
  · rename_i x y h1 h2
    exact ⟨x, y, h1, h2, Option.some.inj h⟩
  · cases h
theorem zip_it {K : PySem.W.Frag} {F : Hp} {io : List Addr} {d e : D} {a b : Addr} (r : Rel K F io d (.ref a)) (r2 : Rel K F io e (.ref b)) (ht : (seqT d).isNone = (seqT e).isNone) : ItOk K F io (if Pc.seqT d = none then Itz K a b else ItzT K a b) (gZip d e) := by
  intro F1 io1 H1 M1 h1 hs hi k
  have r1 := Rel.mono hs hi d _ r
  have r3 := Rel.mono hs hi e _ r2
  unfold gZip
  cases z : seqA M1 d with
  | none => exact ⟨fun q => (by cases q), fun y q => (by cases q)⟩
  | some xs =>
    cases z2 : seqA M1 e with
    | none => exact ⟨fun q => (by cases q), fun y q => (by cases q)⟩
    | some ys =>
      obtain ⟨l1, l2⟩ := seqA_later h1 r1 z
      obtain ⟨m1, m2⟩ := seqA_later h1 r3 z2
      dsimp only
      by_cases hd : Pc.seqT d = none
      · have he : Pc.seqT e = none := by
          rw [hd] at ht
          cases q : Pc.seqT e with
          | none => rfl
          | some l => rw [q] at ht; cases ht
        rw [if_pos hd]
        obtain ⟨vs, e2, e3⟩ := l2 hd
        obtain ⟨ws, f2, f3⟩ := m2 he
        refine ⟨fun q => ?_, fun y q => ?_⟩
        · have q' := zipAt_none (Option.some.inj q)
          exact ⟨vs, ws, e2, f2, by rw [← e3.length, ← f3.length]; exact q'⟩
        · obtain ⟨x0, y0, q1, q2, q3⟩ := zipAt_some (Option.some.inj q)
          subst q3
          obtain ⟨v, g1, g2⟩ := e3.get q1
          obtain ⟨w, g3, g4⟩ := f3.get q2
          refine ⟨⟨vs, ws, v, w, e2, f2, g1, g3⟩, fun x H' ⟨T, v', w', ex, hT, eh, yy, zz⟩ => ?_⟩
          subst ex eh
          have y1 := yy vs e2
          have y2 := zz ws f2
          rw [g1] at y1
          rw [g3] at y2
          cases y1
          cases y2
          exact zip_rel h1 hT g2 g4
      · have he : ¬ Pc.seqT e = none := fun q => by
          rw [q] at ht
          cases q2 : Pc.seqT d with
          | none => exact hd q2
          | some l => rw [q2] at ht; cases ht
        rw [if_neg hd]
        obtain ⟨vs, e2, e3⟩ := l1 hd
        obtain ⟨ws, f2, f3⟩ := m1 he
        refine ⟨fun q => ?_, fun y q => ?_⟩
        · have q' := zipAt_none (Option.some.inj q)
          exact ⟨vs, ws, e2, f2, by rw [← e3.length, ← f3.length]; exact q'⟩
        · obtain ⟨x0, y0, q1, q2, q3⟩ := zipAt_some (Option.some.inj q)
          subst q3
          obtain ⟨v, g1, g2⟩ := e3.get q1
          obtain ⟨w, g3, g4⟩ := f3.get q2
          refine ⟨⟨vs, ws, v, w, e2, f2, g1, g3⟩, fun x H' ⟨T, v', w', ex, hT, eh, yy, zz⟩ => ?_⟩
          subst ex eh
          have y1 := yy vs e2
          have y2 := zz ws f2
          rw [g1] at y1
          rw [g3] at y2
          cases y1
          cases y2
          exact zip_rel h1 hT g2 g4
section
variable {X : Cx} {W : WX}
theorem im_zip {ms : MDs} {a b : Expr} {p pos tpos : Pos} {elts : List Expr} {kk : Nat} (hg : Gl X "zip") (hm : X.mg "zip" = none) (ha : PA X [a, b] (tDs X.K W ms)) (hn : noStar a = true) (hn2 : noStar b = true) :
    PI X (.Tuple elts kk tpos) (.Call (.Name "zip" p) [a, b] [] pos) (tI X.K W (mIZip ms)) := PI.imp' (pi_zipA hg hm ha (star_cons hn _ _) (star_any (by rw [List.all_cons, hn2]; rfl) X.env pos)) fun σ H Q h => by
  refine tDs_mono (tI_tDs (k := zipS) h) fun x H1 ⟨ds, M1, F1, io1, a, r, p⟩ => ?_
  unfold zipS at p
  split at p
  · rename_i d e
    obtain ⟨v, w, rfl, r1, r2⟩ := relL2 r
    split at p
    · rename_i xs ys hx hy
      split at p
      · rename_i ht
        obtain ⟨b, vs, rfl, e2, e3⟩ := a.seqA r1 hx
        obtain ⟨c, ws, rfl, f2, f3⟩ := a.seqA r2 hy
        obtain ⟨l1, l2⟩ := seqA_later a r1 hx
        obtain ⟨m1, m2⟩ := seqA_later a r2 hy
        have pi := p F1 io1 H1 _ a .refl (zip_it r1 r2 ht)
        by_cases hd : Pc.seqT d = none
        · have he : Pc.seqT e = none := by
            rw [hd] at ht
            cases q : Pc.seqT e with
            | none => rfl
            | some l => rw [q] at ht; cases ht
          obtain ⟨us, g1, g2⟩ := l2 hd
          obtain ⟨us2, g3, g4⟩ := m2 he
          rw [if_pos hd] at pi
          exact ⟨b, c, us, us2, rfl, .inl ⟨g1, g3, pi⟩⟩
        · have he : ¬ Pc.seqT e = none := fun q => by
            rw [q] at ht
            cases q2 : Pc.seqT d with
            | none => exact hd q2
            | some l => rw [q2] at ht; cases ht
          obtain ⟨us, g1, g2⟩ := l1 hd
          obtain ⟨us2, g3, g4⟩ := m1 he
          rw [if_neg hd] at pi
          exact ⟨b, c, us, us2, rfl, .inr ⟨g1, g3, pi⟩⟩
      · exact p.elim
    · exact p.elim
  · exact p.elim
end
end Pc

set_option Elab.async false
set_option linter.all false
set_option maxRecDepth 100000
set_option maxHeartbeats 2000000
set_option autoImplicit false
/-! PcO1: walking an instance whose __iter__ gives an iterator over a field's tuple -/
namespace Pc
open PySem PySem.Spec PyProof.Rows L2 ItX
/-- a tuple's iterator that has not turned -/
def ItU (it t : Addr) : HO := .ext fun h => h.IsTupleIter it t 0
theorem itU_ok {P : Program} {w : World} {H : Hp} {h : Heap} {it t : Addr} (e : h.IsTupleIter it t 0) : ObjOk P w H h it (ItU it t) := by
  obtain ⟨o, e1, e2⟩ := id e
  exact ⟨e, ⟨o, e1⟩, fun h1 h2 q k => q.at fun o e => k o e⟩
def spItU (C : Addr) (f : Str) (K : PySem.W.Frag) (n : Nat) : Sp := fun vs H Q _ => ∃ (a dx : Addr) (fs : List (Str × V)) (t : Addr) (xs : List V), vs = [.ref a] ∧ H a = some (.ins C dx fs) ∧ fs.lookup f = some (.ref t) ∧ SqT K H t xs ∧ ∀ it, H it = none → n ≤ it → Q (.ref it) (upd H it (ItU it t))
/-- a promise that knows how large the heap was at the call -/
structure FnOkS (P : Program) (w : World) (K : PySem.W.Frag) (mg : Str → Option Value) (base : Heap) (CX : CXT) (f : Addr) (fd : FuncData) (ps : List Str) (sp : Nat → Sp) : Prop where
  len : ∀ n vs H Q E, sp n vs H Q E → vs.length = ps.length
  run : ∀ (A : Around) (outer : List PySem.Env) (s : Shared) (H : Hp) (args : Args) (us : List Value) (vs : List V) (Q : VK) (E : XK), A.guards = some [] → A.handled = none → A.depth < recursionLimit → Env0 P w K mg base A outer s H → BindsTo s fd args (ps.zip us) → Vals vs us → sp s.heap.objs.size vs H Q E →
    codeAny (model P w) A (.call (.ref f) args) (L2.CR CX outer P w H s Q E) s
/-- the class's __iter__ keeps this promise -/
structure ItF (P : Program) (w : World) (K : PySem.W.Frag) (mg : Str → Option Value) (base : Heap) (c f : Str) : Prop where
  ex : ∃ g fd ps, Cls K (He.ga K c) ∧ Meth K (He.ga K c) "__iter__" g ∧ FnOkS P w K mg base (L2.CX P w) g fd ps (spItU (He.ga K c) f K) ∧ Binds K fd ps []
section
variable {X : Cx}
theorem call_iterT : CallR X (.builtin "iter") (fun xs H Q => ∃ (t : Addr) (ys : List V), xs = [.ref t] ∧ SqT X.K H t ys ∧ ∀ it, H it = none → X.s_0.heap.objs.size ≤ it → Q (.ref it) (upd H it (ItU it t))) := by
  intro pins s σ H xs us Q I r h
  obtain ⟨t, ys, rfl, hq, q⟩ := h
  obtain rfl := Vals.ref1 r
  obtain ⟨its, rv, p, hz⟩ := I.tuple hq
  refine Calls.call_function_entry (by decide +kernel) (by decide +kernel) PySem.W.kdk_entry_iter (PySem.W.kdk_args_iter _) ?_
  unfold Builtin.«iter»
  refine wpAny_bind (m := someArgs "iter" 1 2 _) (wpAny_of_eq (a := [Value.ref t]) (by first | rfl | kernel_rfl!) ?_)
  show wpAny _ _ (pyIter (.ref t) >>= _) _ _ _
  refine wpAny_bind (wpAny_pyIter_tuple (show s.heap.IsTuple t its.toArray from p) ?_)
  refine wpAny_pure ⟨_, rfl, ?_⟩
  exact ⟨.ref s.heap.objs.size, _, I.laid (t' := s.toks) (fun b u e => Heap.get?_push_of_some _ e) (Nat.le_refl _) (itU_ok ⟨_, Heap.get?_push_size _ rfl, rfl, rfl⟩), rfl, q _ (I.hok.fresh (Nat.le_refl _)) I.sz⟩
variable {tg l : Expr}
theorem pi_anyO {tl : TE} (gd : X.A.guards = some []) (hd : X.A.handled = none) (hdp : X.A.depth < recursionLimit) (hl : PE X l tl) : PI X tg l (fun σ H R => tl σ H fun v H1 => (∃ x, v = .str x ∧ R (Its x) H1) ∨ (∃ a, v = .ref a ∧ ((∃ xs, SqL X.K H1 a xs) ∧ R (Itl X.K a) H1 ∨ (∃ xs, SqT X.K H1 a xs) ∧ R (Itt X.K a) H1)) ∨
    ∃ (a : Addr) (c f : Str) (dx : Addr) (fs : List (Str × V)) (t : Addr) (xs : List V), v = .ref a ∧ ItF X.prog X.w X.K X.mg X.base c f ∧ H1 a = some (.ins (He.ga X.K c) dx fs) ∧ fs.lookup f = some (.ref t) ∧ SqT X.K H1 t xs ∧ R (Itt X.K t) H1) := by
  refine ⟨fun pins s σ H R I h => ?_⟩
  refine thn (hl.run pins s σ H _ I h) fun v s1 ⟨y, H1, I1, r1, q1⟩ => ?_
  rcases q1 with ⟨x, ex, q⟩ | ⟨a, e, q⟩ | ⟨a, c, f, dx, fs, t, xs, e, IF, hH, hl2, hq, q⟩
  · subst ex
    obtain ⟨t, rfl⟩ := r1
    cases ha : x.cps.all (· < 128)
    · exact wpAny_pyIter_wide ha (pi_one (tk := s1.toks) I1 _ (turn_str _ x t "str_iterator" (.inr rfl)) ⟨_, Heap.get?_push_size _ rfl, rfl, rfl⟩ q)
    · exact wpAny_pyIter_ascii ha (pi_one (tk := s1.toks) I1 _ (turn_str _ x t "str_ascii_iterator" (.inl rfl)) ⟨_, Heap.get?_push_size _ rfl, rfl, rfl⟩ q)
  · subst e
    cases r1
    rcases q with ⟨⟨xs, hq⟩, q⟩ | ⟨⟨xs, hq⟩, q⟩
    · obtain ⟨its, rv, p, hz⟩ := I1.list hq
      exact wpAny_pyIter_list p.isList (pi_one (tk := s1.toks) I1 _ (turn_list a _) ⟨_, Heap.get?_push_size _ rfl, rfl, rfl⟩ q)
    · obtain ⟨its, rv, p, hz⟩ := I1.tuple hq
      exact wpAny_pyIter_tuple (show s1.heap.IsTuple a its.toArray from p) (pi_one (tk := s1.toks) I1 _ (turn_tuple a _) ⟨_, Heap.get?_push_size _ rfl, rfl, rfl⟩ q)
  · subst e
    cases r1
    obtain ⟨g, fd, ps, cl, me, Fn, bd⟩ := IF.ex
    obtain ⟨mA, J, _⟩ := ins_get I1.hok hH
    obtain ⟨od, J, _⟩ := J.look
    obtain ⟨m, hF⟩ := I1.fr
    refine PySem.W.owit_iter hF I1.ok.mod.kin J me.at_ me.fn ?_
    have hsp : spItU (He.ga X.K c) f X.K s1.heap.objs.size [V.ref a] H1 (fun v H' => ∃ it, v = .ref it ∧ H1 it = none ∧ H' = upd H1 it (ItU it t) ∧ s1.heap.objs.size ≤ it) (fun _ _ _ => False) := ⟨a, dx, fs, t, xs, rfl, hH, hl2, hq, fun it n z => ⟨it, rfl, n, rfl, z⟩⟩
    have hln := Fn.len _ _ _ _ _ hsp
    have r2 : Vals [V.ref a] [Value.ref a] := .cons rfl .nil
    have b' := bd s1 [.ref a] I1.kIn (by simpa using hln)
    rw [List.append_nil] at b'
    refine wpAny_call (codeAny_mono (Fn.run X.A X.stack s1 H1 ⟨[.ref a], []⟩ [.ref a] [V.ref a] _ (fun _ _ _ => False) gd hd hdp I1.env0 b' r2 hsp) fun r s2 hq' => ?_)
    cases r with
    | error e =>
      obtain ⟨_, _, _, _, _, _, _, _, _, _, _, _, z⟩ := hq'
      exact z.elim
    | ok fl =>
      cases fl with
      | next => exact False.elim hq'
      | brk => exact False.elim hq'
      | cont => exact False.elim hq'
      | ret u =>
        obtain ⟨v2, H2, os2, bare2, un2, hok2, rv, it, ev, n, eH, young⟩ := hq'
        subst ev
        obtain rfl : u = Value.ref it := rv
        have I2 : Inv X pins σ H2 s2 := I1.call' (ch := []) os2 un2 hok2 bare2 (fun b z => absurd z (by simp))
        have eit : H2 it = some (ItU it t) := by rw [eH, upd_same]
        have hst : s2.heap.IsTupleIter it t 0 := (I2.hok it _ eit).1
        have eD : dropH H2 it = H1 := by rw [eH]; exact dropH_upd n
        have I3 : Inv X pins σ (dropH H2 it) s2 := inv_drop I2 eit
        have fp := inv_fp I2 eit (Nat.le_trans I1.sz young)
        rw [eD] at I3 fp
        unfold PySem.W.OwitIt
        refine wpAny_specialOf hst.typeIs PySem.F.slot_tuple_iterator_next.lookup ?_
        exact ⟨it, [it], _, _, H1, rfl, I3, turn_tuple t it, hst, fun b hb => by rw [List.mem_singleton.mp hb]; exact fp, q⟩
end
/-! ### as functions -/
def anyIO (its : Str → Option Str) (d : D) (M : Mem) : R (Nat × GI) := match d with
  | .obj c ns ds => (match its c with
    | some f => (match lookD ns ds f with
      | some (.tup xs) => .ok (xs.length, gSeq (.tup xs)) M
      | _ => .stuck)
    | none => .stuck)
  | d => anyI d M
def mIAnyO (its : Str → Option Str) (m : ME) : MI := fun env M => (mD m env M).bind (anyIO its)
section
variable {X : Cx} {W : WX} {tg e : Expr}
theorem im_anyO {its : Str → Option Str} {m : ME} (gd : X.A.guards = some []) (hd : X.A.handled = none) (hdp : X.A.depth < recursionLimit) (hi : ∀ c f, its c = some f → ItF X.prog X.w X.K X.mg X.base c f) (h : PE X e (tE X.K W m)) : PI X tg e (tI X.K W (mIAnyO its m)) := PI.imp' (pi_anyO gd hd hdp (pe_d h)) fun σ H Q h => by
  refine PE_t_mono (tI_tD (k := anyIO its) h) fun x H1 ⟨d, M1, F1, io1, a, r, p⟩ => ?_
  unfold anyIO at p
  split at p
  · rename_i c ns ds
    split at p
    · rename_i f hf
      split at p
      · rename_i xs hl
        obtain ⟨b, dx, fvs, e1, e2, rfl, rl⟩ := (show ∃ a dx fvs, x = V.ref a ∧ F1 a = some (.ins (He.ga X.K c) dx fvs) ∧ fvs.map (·.1) = ns ∧ RelL X.K F1 io1 ds (fvs.map (·.2)) from r)
        obtain ⟨v, hv, rv⟩ := (lookD_lookup (f := f) rl).1 _ hl
        obtain ⟨t, vs, rfl, q1, q2⟩ := (show ∃ a vs, v = V.ref a ∧ F1 a = some (.tup vs) ∧ RelL X.K F1 io1 xs vs from rv)
        refine .inr (.inr ⟨b, c, f, dx, fvs, t, vs, e1, hi c f hf, a.sub _ _ e2, hv, .of (a.sub _ _ q1), ?_⟩)
        exact p F1 io1 H1 _ a .refl (sqT_it (d := .tup xs) rv rfl)
      · exact p.elim
    · exact p.elim
  · unfold anyI at p
    split at p
    · exact .inl ⟨_, r, p F1 io1 H1 _ a .refl (str_it _)⟩
    · skip
      split at p
      · rename_i xs q
        obtain ⟨b, vs, e1, e2, e3⟩ := a.seqA r q
        subst e1
        refine .inr (.inl ⟨b, rfl, ?_⟩)
        obtain ⟨l1, l2⟩ := seqA_later a r q
        cases ht : Pc.seqT d with
        | some ys =>
          obtain ⟨us, g1, g2⟩ := l1 (by rw [ht]; exact fun z => nomatch z)
          exact .inr ⟨⟨us, g1⟩, p F1 io1 H1 _ a .refl (sqT_it r ht)⟩
        | none =>
          have nt : Pc.seqA M1 d = seqL M1 d := by cases d <;> first | rfl | cases ht
          rw [nt] at q
          obtain ⟨us, g1, g2⟩ := l2 ht
          exact .inl ⟨⟨us, g1⟩, p F1 io1 H1 _ a .refl (seq_it a r q)⟩
      · exact p.elim
end
end Pc
set_option Elab.async false
set_option linter.all false
set_option maxRecDepth 100000
set_option maxHeartbeats 2000000
set_option autoImplicit false
/-! PcO2: len(o), o an instance with its own __len__ -/
namespace Pc
open PySem PySem.Spec PyProof.Rows L2
section
variable {X : Cx} {W : WX}
/-- a def called by values from within a built-in -/
theorem run_fm1 {lev n : Nat} {f : Addr} {φ : List D → Mem → R RV} {pins : List (Addr × Obj)} {σ : St} {H : Hp} {s : Shared} {Q : VK} {us : List Value} {vs : List V} (F : FnM X lev f n φ) (hr : Room (lev + 1) X.A) (tk : Takes X W)
    (I : Inv X pins σ H s) (r : Vals vs us) (h : spF X.K φ n vs H Q (WE W σ)) : wpAny (model X.prog X.w) X.A.in1 (call (.ref f) us) (EP X pins σ Q) X.xe s := by
  have gd := F.gd
  obtain ⟨fd, ps, F, b⟩ := F.ex
  have hl : us.length = ps.length := by rw [← r.length]; exact F.len _ _ _ _ h
  have b' := b s us I.kIn (by rw [List.append_nil]; exact hl)
  rw [List.append_nil] at b'
  refine wpAny_call (codeAny_mono (F.run X.A.in1 X.stack s H ⟨us, []⟩ us vs Q (WE W σ) gd hr.in1 I.env0.in1 b' r h) fun r s' hq => ?_)
  cases r with
  | error e => exact passAt tk σ pins H s e s' I hq
  | ok fl =>
    cases fl with
    | ret u => exact I.after hq
    | next => exact False.elim hq
    | brk => exact False.elim hq
    | cont => exact False.elim hq
def lenK (rv : RV) (M : Mem) : R RV := match rv with
  | .val (.int k) => if 0 ≤ k ∧ k < 2 ^ 63 then .ok (.val (.int k)) M else .stuck
  | _ => .stuck
def lenO (own : OwnM) (ds : List D) (M : Mem) : R RV := match ds with
  | [d] => (match insOf M d with
    | some (c, _, _) => (match own c with
      | some (n, φ) => if n = 1 then (φ [d] M).bind lenK else .stuck
      | none => .stuck)
    | none => lenS [d] M)
  | _ => .stuck
def mLenO (own : OwnM) (ms : MDs) : ME := fun env M => (ms env M).bind (lenO own)
theorem pm_lenO {own : OwnM} {ms : MDs} {lev : Nat} {e : Expr} {p pos : Pos} (hr : Room (lev + 1) X.A) (tk : Takes X W) (hg : Gl X "len") (hm : X.mg "len" = none) (hown : OwnOk X lev "__len__" own) (hn : noStar e = true) (ha : PA X [e] (tDs X.K W ms)) :
    PE X (.Call (.Name "len" p) [e] [] pos) (tE X.K W (mLenO own ms)) := by
  refine pm_global hg (.inr ⟨hm, PySem.boot_len, by decide +kernel⟩) (by decide +kernel) (.inr (.inl ⟨_, rfl⟩)) (by rw [List.all_cons, hn]; rfl) (fun z => by cases z) ha fun pins s σ H Q us vs ds M F io I r a rl p => ?_
  unfold lenO at p
  split at p
  · rename_i d
    obtain ⟨v, rfl, h1⟩ := relL1 rl
    split at p
    · rename_i c ns ds0 hi
      split at p
      · rename_i n φ hc
        split at p
        · rename_i hn1
          subst hn1
          obtain ⟨g, cl, me, fm⟩ := hown.ok c 1 φ hc
          obtain ⟨l, dx, fs, rfl, hH, rfl, _⟩ := a.ins h1 hi
          obtain ⟨u, rfl, ru⟩ := vals1 r
          obtain rfl : u = Value.ref l := ru
          obtain ⟨mA, J, _⟩ := ins_get I.hok hH
          obtain ⟨od, J, _⟩ := J.look
          refine Calls.call_function_entry kind_len plain_len entry_len (args_len1 _) ?_
          unfold Builtin.«len»
          refine wpAny_bind (m := oneArg "len" _) (wpAny_pure ?_)
          have hsp : spF X.K φ 1 [V.ref l] H (fun v H' => ∃ k : Int, v = .int k ∧ 0 ≤ k ∧ k < 2 ^ 63 ∧ Q (.int k) H') (WE W σ) := by
            refine spF_of (ds := [d]) a rl rfl ?_
            cases q : φ [d] M with
            | stuck => rw [q] at p; exact p.elim
            | exc c' ns' ds' M' => rw [q] at p; exact p
            | ok rv M' =>
              rw [q] at p
              intro F' io' H' v' ha' x' rr
              have p : PostE X.K W F io H σ Q (lenK rv M') := p
              unfold lenK at p
              split at p
              · rename_i k _
                split at p
                · rename_i hk
                  obtain rfl : v' = V.int k := rr
                  exact ⟨k, rfl, hk.1, hk.2, p F' io' H' _ ha' x' rfl⟩
                · exact p.elim
              · exact p.elim
          refine wpAny_bind (m := callSpecial? (.ref l) (Str.ofString "__len__")) (PySem.W.special_fn (args := []) I.kIn J me.at_ (beq_iff_eq.mp me.fn) (wpAny_mono (run_fm1 fm hr tk I (.cons (show RelV (V.ref l) (Value.ref l) from rfl) .nil) hsp) (fun r' s' hr' => ?_) fun _ _ y => y))
          obtain ⟨v', H', I', rv', k, rfl, k0, k1, q⟩ := hr'
          obtain ⟨t, rfl⟩ := rv'
          refine wpAny_bind (wpAny_holding (wpAny_pure ?_))
          refine wpAny_bind (wpAny_letGo ?_)
          show wpAny _ _ (if k < 0 then _ else _) _ _ _
          rw [if_neg (by omega)]
          show wpAny _ _ (if k ≥ 2 ^ 63 then _ else _) _ _ _
          rw [if_neg (by omega)]
          exact wpAny_bind (wpAny_mkInt (wpAny_pure ⟨_, rfl, ⟨.int k, H', I'.tok _, ⟨_, rfl⟩, q⟩⟩))
        · exact p.elim
      · exact p.elim
    · exact blt_len pins s σ H _ us Q I r ⟨F, io, M, [d], W, σ, a, rl, p⟩
  · exact p.elim
end
end Pc
set_option Elab.async false
set_option linter.all false
set_option maxRecDepth 100000
set_option maxHeartbeats 4000000
set_option autoImplicit false
/-! PcO3: list(o), o an instance with its own __iter__ and __len__ -/
namespace Pc
open PySem PySem.Spec PyProof.Rows L2 ItX
section
variable {X : Cx} {pins : List (Addr × Obj)} {σ : L2.St}
/-- the list at S takes what the tuple's iterator at it has left -/
theorem loopTup {A1 : Around} {Rs : Result → Shared → Prop} {S it t : Addr} {xs : List V} (hh : A1.handled = none) (hne : S ≠ it) (hSt : S ≠ t) (hz : xs.length ≤ sizeLine) (H0 : Hp) (hq : ∀ ys, SqT X.K (upd H0 S (.lst ys)) t xs) (hit : ∀ ys, FpOk X pins (upd H0 S (.lst ys)) it)
    (hR : ∀ s', Inv X pins σ (upd H0 S (.lst xs)) s' → Rs (.ok (.ret .none)) s') :
    ∀ (m i : Nat) (s : Shared), i + m = xs.length → Inv X pins σ (upd H0 S (.lst (xs.take i))) s → s.heap.IsTupleIter it t i → codeAny (model X.prog X.w) A1 (.builtin "list.extend.loop" ⟨[.ref S, .ref it, .none], []⟩) Rs s := by
  intro m
  induction m with
  | zero =>
    intro i s hi I hs
    have e : i = xs.length := by omega
    subst e
    refine codeAny_builtin PySem.F.entry_extend_loop ?_
    rw [Around.under_plainId PySem.F.plain_extend_loop _]
    show wpAny _ A1.in1 (pyNext (.ref it) >>= _) _ _ s
    obtain ⟨its, rv, p, _⟩ := I.tuple (hq _)
    obtain ⟨f0, f1, f2, f3, f4, f5⟩ := hit (xs.take xs.length)
    refine wpAny_bind (wpAny_pyNext_tuple_end (by exact hh) hs (show s.heap.IsTuple t its.toArray from p) (by have := rv.length; simp; omega) fun h' k => ?_)
    refine wpAny_pure (hR _ ?_)
    have I2 := I.turned (t' := s.toks) (fun b o hb e => k b o hb e) f0 f1 f3 f4 f5
    rw [List.take_length] at I2
    exact I2
  | succ m ih =>
    intro i s hi I hs
    have hlt : i < xs.length := by omega
    refine codeAny_builtin PySem.F.entry_extend_loop ?_
    rw [Around.under_plainId PySem.F.plain_extend_loop _]
    show wpAny _ A1.in1 (pyNext (.ref it) >>= _) _ _ s
    obtain ⟨its, rv, p, _⟩ := I.tuple (hq _)
    obtain ⟨f0, f1, f2, f3, f4, f5⟩ := hit (xs.take i)
    obtain ⟨u, hu, ru⟩ := rv.get (List.getElem?_eq_getElem hlt)
    refine wpAny_bind (wpAny_pyNext_tuple_item hs (show s.heap.IsTuple t its.toArray from p) (x := u) (by simpa using hu) fun h' hs' k => ?_)
    have I2 := I.turned (t' := s.toks) (fun b o hb e => (k.2 b hb).trans e) f0 f1 f3 f4 f5
    show wpAny _ A1.in1 (updateSeq S (·.push u) >>= _) _ _ _
    obtain ⟨z, l, c, r2, hl, e⟩ := I2.lstM upd_same
    have htl : (xs.take i).length = i := by rw [List.length_take]; omega
    refine wpAny_bind (wpAny_updateSeq e rfl (wpAny_pure ⟨plainId_quiet PySem.F.plain_extend_loop _, ?_⟩) (by rw [List.size_toArray]; omega) (by show (l.toArray.push u).size ≤ sizeLine + 1; rw [Array.size_push, List.size_toArray]; omega))
    have I3 := I2.lset (its' := l ++ [u]) (ys := xs.take (i + 1)) (f := (·.push u)) (t' := s.toks) upd_same e (by simp) (by
      rw [List.take_add_one, List.getElem?_eq_getElem hlt]
      exact r2.append (.cons ru .nil)) (by rw [List.length_take]; omega)
    rw [upd_upd] at I3
    refine ih (i + 1) _ (by omega) I3 (hs'.at fun o q => (Heap.get?_update_other _ _ hne).trans q)
theorem room3 {lev : Nat} {A : Around} (r : Room (lev + 1) A) : Room lev A.in1.in1.in1 := ⟨r.hd, by have := r.dp; show A.depth + 3 * lev + 5 < _; omega, by have := r.un; show A.units + 1 + 1 + 1 + 16 * lev + 200 < _; omega⟩
/-- a def called by values, three calls deep -/
theorem run_fm3 {lev n : Nat} {f : Addr} {φ : List D → Mem → R RV} {H : Hp} {s : Shared} {Q : VK} {us : List Value} {vs : List V} (F : FnM X lev f n φ) (hr : Room (lev + 1) X.A)
    (I : Inv X pins σ H s) (r : Vals vs us) (h : spF X.K φ n vs H Q (fun _ _ _ => False)) : wpAny (model X.prog X.w) X.A.in1.in1.in1 (call (.ref f) us) (EP X pins σ Q) (fun _ _ => False) s := by
  have gd := F.gd
  obtain ⟨fd, ps, F, b⟩ := F.ex
  have hl : us.length = ps.length := by rw [← r.length]; exact F.len _ _ _ _ h
  have b' := b s us I.kIn (by rw [List.append_nil]; exact hl)
  rw [List.append_nil] at b'
  refine wpAny_call (codeAny_mono (F.run X.A.in1.in1.in1 X.stack s H ⟨us, []⟩ us vs Q (fun _ _ _ => False) gd (room3 hr) I.env0.in1.in1.in1 b' r h) fun r s' hq => ?_)
  cases r with
  | error e =>
    obtain ⟨_, _, _, _, _, _, _, _, _, _, _, _, z⟩ := hq
    exact z.elim
  | ok fl =>
    cases fl with
    | ret u => exact I.after hq
    | next => exact False.elim hq
    | brk => exact False.elim hq
    | cont => exact False.elim hq
def listK (xs : List D) (rv : RV) (M : Mem) : R RV := match rv with
  | .val (.int k) => if 0 ≤ k ∧ k < 2 ^ 63 ∧ k.toNat ≤ sizeLine then .ok (.own (.lst xs)) M else .stuck
  | _ => .stuck
def listO (its : Str → Option Str) (own : OwnM) (ds : List D) (M : Mem) : R RV := match ds with
  | [.obj c ns fs] => (match its c, own c with
    | some f, some (n, φ) => (match lookD ns fs f with
      | some (.tup xs) => if n = 1 ∧ xs.length ≤ sizeLine then (noX (φ [.obj c ns fs] M)).bind (listK xs) else .stuck
      | _ => .stuck)
    | _, _ => .stuck)
  | ds => listS ds M
theorem HA.lose {K : PySem.W.Frag} {F H : Hp} {io : List Addr} {M : Mem} {b : Addr} (h : HA K F io H M) (hF : F b = none) (hi : b ∉ io) : HA K F io (dropH H b) M := by
  refine ⟨fun c u e => ?_, h.len, h.nd, fun j o e => ?_⟩
  · rw [dropH_ne (fun z => by subst z; rw [hF] at e; cases e)]; exact h.sub c u e
  · obtain ⟨c, e1, e2, e3⟩ := h.at_ j o e
    exact ⟨c, e1, e2, e3.mono (Same.refl _) (fun _ _ z => z) (dropH_ne fun z => by subst z; exact hi (List.mem_of_getElem? e1))⟩
theorem upd_id {H : Hp} {a : Addr} {o : HO} (h : H a = some o) : upd H a o = H := by
  funext b
  by_cases hb : b = a
  · rw [hb, upd_same, h]
  · rw [upd_ne hb]
theorem call_listO {W : WX} {its : Str → Option Str} {own : OwnM} {lev : Nat} (gd : X.A.guards = some []) (hh : X.A.handled = none) (hr : Room (lev + 1) X.A) (tk : Takes X W) (hi : ∀ c f, its c = some f → ItF X.prog X.w X.K X.mg X.base c f) (hown : OwnOk X lev "__len__" own)
    {H : Hp} {s : Shared} {Q : VK} {us : List Value} {vs : List V} {F : Hp} {io : List Addr} {ds : List D} {M : Mem} (I : Inv X pins σ H s) (r : Vals vs us) (ha : HA X.K F io H M) (rl : RelL X.K F io ds vs) (p : PostE X.K W F io H σ Q (listO its own ds M)) :
    wpAny (model X.prog X.w) X.A (call (.type "list") us) (EP X pins σ Q) X.xe s := by
  unfold listO at p
  split at p
  · rename_i c ns fs0
    split at p
    · rename_i f n φ hf hφ
      split at p
      · rename_i xs hlk
        split at p
        · rename_i hc1
          obtain ⟨rfl, hxs⟩ := hc1
          obtain ⟨v, rfl, h1⟩ := relL1 rl
          obtain ⟨u, rfl, ru⟩ := vals1 r
          obtain ⟨a, dx, fvs, rfl, hF, rfl, rlf⟩ := (show ∃ a dx fvs, v = V.ref a ∧ F a = some (.ins (He.ga X.K c) dx fvs) ∧ fvs.map (·.1) = ns ∧ RelL X.K F io fs0 (fvs.map (·.2)) from h1)
          obtain rfl : u = Value.ref a := ru
          have hH := ha.sub _ _ hF
          obtain ⟨w0, hw, rw0⟩ := (lookD_lookup (f := f) rlf).1 _ hlk
          obtain ⟨t, ys, rfl, ht, rly⟩ := (show ∃ a vs, w0 = V.ref a ∧ F a = some (.tup vs) ∧ RelL X.K F io xs vs from rw0)
          have hyl : ys.length ≤ sizeLine := by rw [← rly.length]; exact hxs
          obtain ⟨g, fd, ps, cl, me, Fn, bd⟩ := (hi c f hf).ex
          obtain ⟨gL, clL, meL, fmL⟩ := hown.ok c 1 φ hφ
          refine callType_codes (Q₁ := fun obj t1 => obj = .ref s.heap.objs.size ∧ t1 = { s with heap := s.heap.push { cls := .type "list", data := .seq #[] } }) PySem.F.called_list (PySem.F.typeCall_list_1 _) PySem.F.entry_list_init
            (code_list_new _ ⟨rfl, rfl⟩) fun obj t1 h1 => ?_
          obtain ⟨rfl, rfl⟩ := h1
          have hS : (s.heap.push { cls := .type "list", data := .seq #[] }).get? s.heap.objs.size = some { cls := .type "list", data := .seq #[] } := Heap.get?_push_size _ rfl
          refine ⟨⟨_, hS, rfl⟩, PySem.F.args_list_init_2 _ _, ?_⟩
          have nS : H s.heap.objs.size = none := I.hok.fresh (Nat.le_refl _)
          have I1 : Inv X pins σ (upd H s.heap.objs.size (.lst [])) { s with heap := s.heap.push { cls := .type "list", data := .seq #[] } } := I.lnew (its := []) (t' := s.toks) .nil (Nat.zero_le _)
          show wpAny _ _ (do let old ← Builtin.List.listItems (.ref s.heap.objs.size); Builtin.List.listUpdate (.ref s.heap.objs.size) (fun _ => #[]); letGo old.toList.reverse; Builtin.List.listExtendWith (.ref s.heap.objs.size) (.ref a) .none) _ _ _
          refine wpAny_bind ?_
          unfold Builtin.List.listItems
          refine wpAny_bind (wpAny_seqItems hS rfl (wpAny_pure ?_))
          show wpAny _ _ (updateSeq s.heap.objs.size (fun _ => #[]) >>= fun _ => letGo (#[] : Array Value).toList.reverse >>= fun _ => Builtin.List.listExtendWith (.ref s.heap.objs.size) (.ref a) .none) _ _ _
          refine wpAny_bind (wpAny_updateSeq hS rfl ?_)
          have I2 := I1.lset (f := fun _ => #[]) (its := []) (its' := []) (ys := []) (t' := s.toks) upd_same hS rfl .nil (Nat.zero_le _)
          rw [upd_upd] at I2
          refine wpAny_bind (wpAny_letGo ?_)
          have young0 : ∀ b : Addr, H b ≠ none → b ≠ s.heap.objs.size := fun b hb z => hb (by rw [z]; exact nS)
          have nSa : s.heap.objs.size ≠ a := Ne.symm (young0 a (by rw [hH]; exact fun z => nomatch z))
          have nSt : s.heap.objs.size ≠ t := Ne.symm (young0 t (by rw [ha.sub _ _ ht]; exact fun z => nomatch z))
          generalize hSS : s.heap.objs.size = S at *
          have hH2 : upd H S (.lst []) a = some (.ins (He.ga X.K c) dx fvs) := by rw [upd_ne (Ne.symm nSa)]; exact hH
          have ht2 : upd H S (.lst []) t = some (.tup ys) := by rw [upd_ne (Ne.symm nSt)]; exact ha.sub _ _ ht
          generalize hs2 : ({ s with heap := (s.heap.push { cls := .type "list", data := .seq #[] }).update S (Obj.mapSeq fun _ => #[]), toks := s.toks } : Shared) = s2 at I2
          show wpAny (model X.prog X.w) X.A.in1.in1 (Builtin.List.listExtendWith (.ref S) (.ref a) .none) _ _ s2
          obtain ⟨mA, J, _⟩ := ins_get I2.hok hH2
          obtain ⟨od, J, _⟩ := J.look
          obtain ⟨m0, hFr⟩ := I2.fr
          unfold Builtin.List.listExtendWith
          refine wpAny_bind (J.type.here ?_)
          have q1 : Builtin.List.listSameRef (.ref S) (.ref a) = false := by simp [Builtin.List.listSameRef, nSa]
          have q2 : (Value.ref (He.ga X.K c) == Value.type "list") = false := rfl
          have q3 : (Value.ref (He.ga X.K c) == Value.type "tuple") = false := rfl
          simp only [q1, q2, q3, Bool.or_false, Bool.false_eq_true, if_false]
          refine wpAny_bind (PySem.W.owit_iter hFr I2.ok.mod.kin J me.at_ me.fn ?_)
          have hsp : spItU (He.ga X.K c) f X.K s2.heap.objs.size [V.ref a] (upd H S (.lst [])) (fun v H' => ∃ it, v = .ref it ∧ upd H S (.lst []) it = none ∧ H' = upd (upd H S (.lst [])) it (ItU it t) ∧ s2.heap.objs.size ≤ it) (fun _ _ _ => False) := ⟨a, dx, fvs, t, ys, rfl, hH2, hw, .inl (.inl ht2), fun it n z => ⟨it, rfl, n, rfl, z⟩⟩
          have hln := Fn.len _ _ _ _ _ hsp
          have r2 : Vals [V.ref a] [Value.ref a] := .cons rfl .nil
          have b' := bd s2 [.ref a] I2.kIn (by simpa using hln)
          rw [List.append_nil] at b'
          refine wpAny_call (codeAny_mono (Fn.run X.A.in1.in1 X.stack s2 _ ⟨[.ref a], []⟩ [.ref a] [V.ref a] _ (fun _ _ _ => False) gd hr.hd hr.depth I2.env0.in1.in1 b' r2 hsp) fun rr s3 hq' => ?_)
          cases rr with
          | error e =>
            obtain ⟨_, _, _, _, _, _, _, _, _, _, _, _, z⟩ := hq'
            exact z.elim
          | ok fl =>
            cases fl with
            | next => exact False.elim hq'
            | brk => exact False.elim hq'
            | cont => exact False.elim hq'
            | ret u2 =>
              obtain ⟨v2, H3, os3, bare3, un3, hok3, rv3, it, ev, nit, eH3, young⟩ := hq'
              subst ev
              obtain rfl : u2 = Value.ref it := rv3
              have I3 : Inv X pins σ H3 s3 := I2.call' (ch := []) os3 un3 hok3 bare3 (fun b z => absurd z (by simp))
              have eit : H3 it = some (ItU it t) := by rw [eH3, upd_same]
              have nitS : it ≠ S := fun z => by rw [z, upd_same] at nit; cases nit
              have nitH : H it = none := by rw [upd_ne nitS] at nit; exact nit
              have eS3 : H3 S = some (.lst []) := by rw [eH3, upd_ne (Ne.symm nitS), upd_same]
              have up3 : ∀ b o, H b = some o → H3 b = some o := fun b o e => by
                rw [eH3, upd_ne (ne_of_none e nitH), upd_ne (ne_of_none e nS)]
                exact e
              have dn3 : ∀ b, H3 b = none → H b = none := fun b e => by
                cases q : H b with
                | none => rfl
                | some o => rw [up3 b o q] at e; cases e
              have hst : s3.heap.IsTupleIter it t 0 := (I3.hok it _ eit).1
              unfold PySem.W.OwitIt
              refine wpAny_specialOf hst.typeIs PySem.F.slot_tuple_iterator_next.lookup ?_
              show wpAny _ _ _ _ _ s3
              -- the hint
              have ha3 : HA X.K F io H3 M := by
                have z := (ha.new nS (o := .lst [])).new nit (o := ItU it t)
                rw [← eH3] at z
                exact z
              obtain ⟨mA3, J3, _⟩ := ins_get I3.hok (up3 _ _ hH)
              obtain ⟨od3, J3, _⟩ := J3.look
              have hsL : spF X.K φ 1 [V.ref a] H3 (fun v H' => ∃ (k : Int) (M2 : Mem) (F4 : Hp) (io4 : List Addr), v = .int k ∧ 0 ≤ k ∧ k < 2 ^ 63 ∧ k.toNat ≤ sizeLine ∧ HA X.K F4 io4 H' M2 ∧ Ex F io H3 F4 io4 H' ∧ PostE X.K W F io H σ Q (.ok (.own (.lst xs)) M2)) (fun _ _ _ => False) := by
                have spf : ∀ {ds : List D} {vs : List V} {Q' : VK}, RelL X.K F io ds vs → ds.length = 1 → PostE X.K (fun _ _ _ _ => False) F io H3 [] Q' (φ ds M) → spF X.K φ 1 vs H3 Q' (fun _ _ _ => False) := fun {ds vs Q'} rl hl p => ⟨by rw [← rl.length]; exact hl, F, io, M, ds, ha3, rl, p⟩
                refine spf (ds := [.obj c (fvs.map (·.1)) fs0]) rl rfl ?_
                have x3 : Ex F io H F io H3 := by
                  have z := (Ex.new ha nS (o := .lst [])).trans (Ex.new (ha.new nS) nit (o := ItU it t))
                  rw [← eH3] at z
                  exact z
                cases qφ : φ [.obj c (fvs.map (·.1)) fs0] M with
                | stuck => rw [qφ] at p; exact p.elim
                | exc c' ns' ds' M' => rw [qφ] at p; exact p.elim
                | ok rv M' =>
                  rw [qφ] at p
                  intro F' io' H' v' ha' x' rr
                  have p : PostE X.K W F io H σ Q (listK xs rv M') := p
                  unfold listK at p
                  split at p
                  · rename_i k _
                    split at p
                    · rename_i hk
                      obtain rfl : v' = V.int k := rr
                      exact ⟨k, M', F', io', rfl, hk.1, hk.2.1, hk.2.2, ha', x', p⟩
                    · exact p.elim
                  · exact p.elim
              refine wpAny_bind (wpAny_holding ?_)
              unfold Builtin.List.listLengthHint
              refine wpAny_bind (wpAny_bind (J3.type.here ((PySem.W.looks_findIn I3.kIn meL.at_).here ?_)))
              refine PySem.W.KFB.if_not rfl ?_
              refine PySem.W.KFB.if_so rfl ?_
              refine wpAny_bind (wpAny_rule ?_)
              refine wpAny_bind (wpAny_attempt ?_)
              refine Calls.call_function_entry kind_len plain_len entry_len (args_len1 _) ?_
              unfold Builtin.«len»
              refine wpAny_bind (m := oneArg "len" _) (wpAny_pure ?_)
              refine wpAny_bind (m := callSpecial? (.ref a) (Str.ofString "__len__")) (PySem.W.special_fn (args := []) I3.kIn J3 meL.at_ (beq_iff_eq.mp meL.fn) (wpAny_mono (run_fm3 fmL hr I3 (.cons (show RelV (V.ref a) (Value.ref a) from rfl) .nil) hsL) (fun r' s4 hr' => ?_) fun _ _ y => y.elim))
              · obtain ⟨v', H4, I4, rv', k, M2, F4, io4, rfl, k0, k1, k2, ha4, x4, pf⟩ := hr'
                obtain ⟨tk4, rfl⟩ := rv'
                refine wpAny_bind (wpAny_holding (wpAny_pure ?_))
                refine wpAny_bind (wpAny_letGo ?_)
                show wpAny _ _ (if k < 0 then _ else _) _ _ _
                rw [if_neg (by omega)]
                show wpAny _ _ (if k ≥ 2 ^ 63 then _ else _) _ _ _
                rw [if_neg (by omega)]
                refine wpAny_bind (wpAny_mkInt (wpAny_pure ⟨_, rfl, ?_⟩))
                refine wpAny_bind (wpAny_pure ?_)
                show wpAny _ _ (if Builtin.List.listTooLong k.toNat = true then _ else _) _ _ _
                rw [if_neg (by rw [notLongL k2]; exact Bool.false_ne_true)]
                have al := x4.alone (show H3 S = some (.lst []) from eS3) (ha.fnone nS) (ha.notin nS)
                have ai := x4.alone (show H3 it = some (ItU it t) from eit) (ha.fnone nitH) (ha.notin nitH)
                have t4 : H4 t = some (.tup ys) := ha4.sub _ _ (x4.sub _ _ ht)
                have x0 : Ex F io H F4 io4 H4 := (Ex.new ha nS (o := .lst [])).trans ((Ex.new (ha.new nS) nit (o := ItU it t)).trans (by rw [← eH3]; exact x4))
                have I5 := (inv_drop I4 ai.1).tok (s4.toks + 1)
                have fp := inv_fp I4 ai.1 (Nat.le_trans I2.sz young)
                have nit_t : t ≠ it := fun z => by rw [z, ai.1] at t4; cases t4
                have st4 := (I4.hok it _ ai.1).1
                have eS5 : dropH H4 it S = some (.lst []) := by rw [dropH_ne (Ne.symm nitS)]; exact al.1
                have ha5 := ha4.lose ai.2.1 ai.2.2
                have fin : ∀ s', Inv X pins σ (upd (dropH H4 it) S (.lst ys)) s' → wants (fun r s₂ => r = .none ∧ EP X pins σ Q (.ref S) s₂) X.xe (.ok (.ret .none)) s' := fun s' I' => by
                  have ra : RelL X.K F4 io4 xs ys := RelL.mono x0.sub x0.ids _ _ rly
                  refine ⟨rfl, .ref S, _, I', rfl, pf F4 io4 _ _ (ha5.poke al.2.1 al.2.2) ?_ ⟨S, rfl, nS, al.2.1, al.2.2, ys, upd_same, ra⟩⟩
                  refine ⟨x0.sub, x0.ids, fun b o e n => ?_, x0.newF, x0.newI, fun b e => ?_⟩
                  · rw [upd_ne (ne_of_none e nS), dropH_ne (ne_of_none e nitH)]; exact x0.frame b o e n
                  · have hbS : b ≠ S := fun z => e (by rw [z]; exact nS)
                    have hbi : b ≠ it := fun z => e (by rw [z]; exact nitH)
                    rw [upd_ne hbS, dropH_ne hbi]; exact x0.there b e
                have loop := loopTup (X := X) (pins := pins) (σ := σ) (A1 := X.A.in1) (Rs := wants (fun r s₂ => r = .none ∧ EP X pins σ Q (.ref S) s₂) X.xe) (S := S) (it := it) (t := t) (xs := ys) hh (Ne.symm nitS) nSt hyl (dropH H4 it)
                  (fun zs => .of (by rw [upd_ne (Ne.symm nSt), dropH_ne nit_t]; exact t4))
                  (fun zs => ⟨by rw [upd_ne nitS]; exact fp.1, fp.2⟩) fin ys.length 0
                have I6 : Inv X pins σ (upd (dropH H4 it) S (.lst (ys.take 0))) _ := (show upd (dropH H4 it) S (.lst (ys.take 0)) = dropH H4 it from upd_id eS5) ▸ I5
                obtain ⟨z, its, k4, r3, hl3, e3⟩ := I5.lstM eS5
                cases r3
                refine wpAny_pure ?_
                refine wpAny_ite_split (fun _ => ?_) (fun _ => wpAny_pure ⟨plainId_quiet PySem.F.plain_extend_loop _, loop _ (Nat.zero_add _) I6 st4⟩)
                refine wpAny_bind (wpAny_rule ?_)
                refine wpAny_bind ?_
                show wpAny _ _ (updateSeq S (·.push .none) >>= fun _ => updateSeq S (·.pop)) _ _ _
                refine wpAny_bind (wpAny_updateSeq e3 rfl ?_)
                have J2 := I5.lset (f := (·.push Value.none)) (its' := [Value.none]) (ys := [.non]) (t' := s4.toks + 1) eS5 e3 (by simp) (.cons rfl .nil) (by rw [List.length_singleton, sizeLine_eq]; decide)
                obtain ⟨z4, its4, k5, r4, hl4, e4⟩ := J2.lstM upd_same
                obtain ⟨u4, rfl, ru4⟩ := r4.one
                refine wpAny_updateSeq e4 rfl ?_ (by show 1 ≤ sizeLine; rw [sizeLine_eq]; decide) (by show 0 ≤ sizeLine + 1; exact Nat.zero_le _)
                refine wpAny_pure ⟨plainId_quiet PySem.F.plain_extend_loop _, loop _ (Nat.zero_add _) ?_ ?_⟩
                · have J3 := J2.lset (f := (·.pop)) (its := [u4]) (its' := []) (ys := []) (t' := s4.toks + 1) upd_same e4 (by rfl) .nil (Nat.zero_le _)
                  rw [upd_upd] at J3
                  exact J3
                · exact (st4.at fun o q => (Heap.get?_update_other _ _ (Ne.symm nitS)).trans q).at fun o q => (Heap.get?_update_other _ _ (Ne.symm nitS)).trans q
        · exact p.elim
      · exact p.elim
    · exact p.elim
  · exact blt_list pins s σ H vs us Q I r ⟨F, io, M, _, W, σ, ha, rl, p⟩
theorem pm_listO {W : WX} {its : Str → Option Str} {own : OwnM} {ms : MDs} {lev : Nat} {e : Expr} {p pos : Pos} (gd : X.A.guards = some []) (hr : Room (lev + 1) X.A) (tk : Takes X W) (hi : ∀ c f, its c = some f → ItF X.prog X.w X.K X.mg X.base c f) (hown : OwnOk X lev "__len__" own)
    (hg : Gl X "list") (hm : X.mg "list" = none) (hn : noStar e = true) (ha : PA X [e] (tDs X.K W ms)) : PE X (.Call (.Name "list" p) [e] [] pos) (tE X.K W (mBlt (listO its own) ms)) :=
  pm_global hg (.inr ⟨hm, by decide +kernel, by decide +kernel⟩) (by decide +kernel) (.inr (.inr ⟨_, rfl⟩)) (by rw [List.all_cons, hn]; rfl) (fun z => by cases z) ha fun pins s σ H Q us vs ds M F io I r a rl p => call_listO gd hr.hd hr tk hi hown I r a rl p
end
end Pc
set_option Elab.async false
set_option linter.all false
set_option maxRecDepth 100000
set_option maxHeartbeats 1000000
set_option autoImplicit false
/-! PcTr: the program's text, read as functions -/
namespace Pc
open PySem PySem.Spec PyProof.Rows L2

/-- what is known of the module -/
structure GE where
  fnA : List (Str × Nat)
  clA : List (Str × (Bool × Nat))
  con : List (Str × D)
  frA : List Str
  meA : List ((Str × Str) × Nat)
  okA : List (Str × Str)
  muA : List Str
  wf : Nat
  exA : List (Str × (Bool × Option Str)) := []
  xaA : List (Str × Str) := []
  isA : List (Str × List (Kd × Bool)) := []
  emA : List ((Str × Str) × Bool) := []
  itA : List (Str × Str) := []
/-- what the module's own code does -/
structure Dy where
  call : Str → List D → Mem → R RV
  meth : Str → Str → List D → Mem → R RV
structure TC where
  N : List Str
  sc : Scope
  fnS : Str → Bool
  mu : List Str
  G : GE
  Y : Dy
def ixOf (x : Str) : List Str → Option Nat
  | [] => none
  | y :: r => if y = x then some 0 else (ixOf x r).map (· + 1)
theorem ixOf_ok {x : Str} : ∀ {N : List Str} {i : Nat}, ixOf x N = some i → N[i]? = some x
  | [], _, h => by cases h
  | y :: r, i, h => by
    unfold ixOf at h
    split at h
    · rename_i e; cases h; rw [e]; rfl
    · cases q : ixOf x r with
      | none => rw [q] at h; cases h
      | some j => rw [q] at h; cases h; exact ixOf_ok (N := r) q
def visB (sc : Scope) (x : Str) : Bool := match sc.names.lookup x with
  | some .local => true
  | some .cell => true
  | some .free => true
  | _ => false
def gloB (sc : Scope) (x : Str) : Bool := match sc.names.lookup x with
  | some .globalImplicit => true
  | _ => false
def locB (C : TC) (x : Str) : Bool := match C.sc.names.lookup x with
  | some .local => true
  | some .cell => C.fnS x
  | _ => false
def plainX (x : Str) : Bool := !(x == ("__debug__" : Str)) && !(x == ("__classdict__" : Str))
def okB (G : GE) (c f : Str) : Bool := G.okA.contains (c, f)
def oxB (G : GE) (c f : Str) : Bool := G.xaA.contains (c, f)
def bltG (x : Str) : Option (List D → Mem → R RV) := if x = "repr" then some reprS else if x = "sum" then some sum2S else bltF x
def ownB (C : TC) (name : Str) : OwnM := fun c => (C.G.meA.lookup (name, c)).map fun n => (n, C.Y.meth c name)
def itsB (C : TC) : Str → Option Str := fun c => C.G.itA.lookup c
def trName (C : TC) (x : Str) : ME :=
  if plainX x then (if visB C.sc x then (match ixOf x C.N with
    | some i => mVar i
    | none => mStuck)
  else if gloB C.sc x then (match C.G.con.lookup x with
    | some d => mVal d
    | none => mStuck) else mStuck) else mStuck
def notSl : Expr → Bool
  | .Slice .. => false
  | _ => true
def notSet : Expr → Bool
  | .Set .. => false
  | _ => true
def ownOf (N : List Str) (scope : Scope) : List (Str × Nat) := scope.names.filterMap fun y => match y.2 with
  | .local => (ixOf y.1 N).map fun i => (y.1, i)
  | .cell => (ixOf y.1 N).map fun i => (y.1, i)
  | _ => none
def blkTC (C : TC) (scope : Scope) : TC := { C with sc := relS scope C.sc, fnS := fun x => scope.names.lookup x == some .cell }
def gJoin : Option MG → Option MGs → Option MGs
  | some g, some gs => some (gsCons g gs)
  | _, _ => none
def trG (C : TC) : Nat → Expr → Option MG
  | 0, _ => none
  | n + 1, e => match e with
    | .Name x _ => if locB C x then (ixOf x C.N).map gN else none
    | .Tuple es _ _ => if es.all noStar then (es.foldr (fun e r => gJoin (trG C n e) r) (some gsNil)).map (gT es.length) else none
    | _ => none
def trCallN (C : TC) (x : Str) (ms : MDs) : ME :=
  if plainX x && gloB C.sc x then (match C.G.fnA.lookup x with
    | some k => mCall k (C.Y.call x) ms
    | none => match C.G.clA.lookup x with
      | some (b, k) => mMake b x k (C.Y.meth x "__init__") ms
      | none => match C.G.exA.lookup x with
        | some (fm, fl) => mExo x fm fl ms
        | none => if C.G.frA.contains x then (match bltG x with
          | some f => mBlt f ms
          | none => mStuck) else mStuck)
  else mStuck

mutual
def trE : Nat → TC → Expr → ME
  | 0, _, _ => mStuck
  | n + 1, C, e => match e with
    | .Constant .none _ _ => mVal .non
    | .Constant (.bool b) _ _ => mVal (.bl b)
    | .Constant (.int i) _ _ => mVal (.int i)
    | .Constant (.str s) _ _ => mVal (.str s)
    | .Name x _ => trName C x
    | .BinOp a op b _ => mBin op (trE n C a) (trE n C b)
    | .Compare a [op] [b] _ => if behindInMarks op b = false then mCmp op (trE n C a) (trE n C b) else mStuck
    | .Compare a [op, op'] [b, c] _ => if lastMarks [op, op'] [b, c] = false then mChain op op' (trE n C a) (trE n C b) (trE n C c) else mStuck
    | .BoolOp _ [x] _ => trE n C x
    | .BoolOp .And (x :: y :: r) p => mAnd (trE n C x) (trE n C (.BoolOp .And (y :: r) p))
    | .BoolOp .Or (x :: y :: r) p => mOr (trE n C x) (trE n C (.BoolOp .Or (y :: r) p))
    | .UnaryOp .Not x _ => mNot (trE n C x)
    | .UnaryOp .USub x _ => mNeg (trE n C x)
    | .IfExp c a b _ => mIf (trT n C c) (trE n C a) (trE n C b)
    | .Tuple es _ _ => mTup (trA n C es)
    | .List es _ => mLst (trA n C es)
    | .Dict [] [] _ => mDNew false
    | .Dict (k :: ks) vs _ => (match trP n C (k :: ks) vs with
      | some l => if (k :: ks).length ≤ 15 then mDict l else mStuck
      | none => mStuck)
    | .Attribute o f _ => if notSuper o then mAttrX (okB C.G) (oxB C.G) f (trE n C o) else mStuck
    | .Subscript a i _ => (match i with
      | .Slice lo hi none _ => mSlice (trE n C a) (trO n C lo) (trO n C hi)
      | i => if notSl i then mIdx (trE n C a) (trE n C i) else mStuck)
    | .ListComp elt [⟨tg, iter, ifs, 0⟩] scope _ => (match trG (blkTC C scope) n tg with
      | some g => if blkC C.N C.sc scope (ownOf C.N scope) && notSet iter then mLc (trI n C tg iter) g (trIf n (blkTC C scope) ifs) (mA false (trE n (blkTC C scope) elt)) ((ownOf C.N scope).map (·.2)) else mStuck
      | none => mStuck)
    | .Call (.Name x _) es [] _ => if x = ("isinstance" : Str) then (match es with
      | [e, .Name c _] => if gloB C.sc x && C.G.frA.contains x && gloB C.sc c && plainX c && noStar e then (match C.G.isA.lookup c with
        | some tb => mIsi (fun k => tb.lookup k) (trE n C e)
        | none => mStuck) else mStuck
      | _ => mStuck) else if x = ("len" : Str) then (match es with
      | [e] => if gloB C.sc x && C.G.frA.contains x && noStar e then mLenO (ownB C "__len__") (trA n C [e]) else mStuck
      | _ => mStuck) else if x = ("list" : Str) then (match es with
      | [e] => if gloB C.sc x && C.G.frA.contains x && noStar e then mBlt (listO (itsB C) (ownB C "__len__")) (trA n C [e]) else mStuck
      | _ => mStuck) else if es.all noStar then trCallN C x (trA n C es) else mStuck
    | .Call (.Attribute o name ap) es [] p => if notSuper o && es.all noStar && decide (es.length < 30) && (ap.endLine == p.line) then mMeth (methAlts name) (ownB C name) name (trE n C o) (trA n C es) else mStuck
    | _ => mStuck
def trT : Nat → TC → Expr → MT
  | 0, _, _ => fun _ _ => .stuck
  | n + 1, C, e => match e with
    | .BoolOp op vs p => trW n C (.BoolOp op vs p)
    | .UnaryOp .Not x _ => mNotT (trT n C x)
    | .Compare a [op] [b] _ => if behindInMarks op b = false then mBl (mCmp op (trE n C a) (trE n C b)) else fun _ _ => .stuck
    | .Compare a [op, op'] [b, c] _ => if lastMarks [op, op'] [b, c] = false then mBl (mChain op op' (trE n C a) (trE n C b) (trE n C c)) else fun _ _ => .stuck
    | .Compare .. => fun _ _ => .stuck
    | .IfExp .. => fun _ _ => .stuck
    | e => mTru (trE n C e)
def trW : Nat → TC → Expr → MT
  | 0, _, _ => fun _ _ => .stuck
  | n + 1, C, e => match e with
    | .BoolOp _ [x] _ => trT n C x
    | .BoolOp .And (x :: y :: r) p => mAndT (trT n C x) (trW n C (.BoolOp .And (y :: r) p))
    | .BoolOp .Or (x :: y :: r) p => mOrT (trT n C x) (trW n C (.BoolOp .Or (y :: r) p))
    | _ => fun _ _ => .stuck
def trIf : Nat → TC → List Expr → MT
  | 0, _, _ => fun _ _ => .stuck
  | n + 1, C, es => match es with
    | [] => mYes
    | [c] => trT n C c
    | _ => fun _ _ => .stuck
def trA : Nat → TC → List Expr → MDs
  | 0, _, es => match es with
    | [] => mNil
    | _ => fun _ _ => .stuck
  | n + 1, C, es => match es with
    | [] => mNil
    | .Starred e _ :: r => mStar (trE n C e) (trA n C r)
    | e :: r => mConsA false (trE n C e) (trA n C r)
def trO : Nat → TC → Option Expr → MPt
  | 0, _, _ => fun _ _ => .stuck
  | n + 1, C, o => match o with
    | none => mNoPart
    | some e => mPart (trE n C e)
def trP : Nat → TC → List (Option Expr) → List Expr → Option (List (ME × ME))
  | 0, _, _, _ => none
  | n + 1, C, ks, vs => match ks, vs with
    | [], [] => some []
    | some k :: ks, v :: vs => (trP n C ks vs).map fun l => (trE n C k, trE n C v) :: l
    | _, _ => none
def trI : Nat → TC → Expr → Expr → MI
  | 0, _, _, _ => fun _ _ => .stuck
  | n + 1, C, tg, e => match e with
    | .Call (.Name x _) [a] [] _ =>
      if x = ("range" : Str) then (if gloB C.sc x && C.G.frA.contains x && noStar a then mIRng1 (trA n C [a]) else fun _ _ => .stuck)
      else if x = ("enumerate" : Str) then (match tg with
        | .Tuple .. => if gloB C.sc x && C.G.frA.contains x && noStar a then mIEnu (trA n C [a]) else fun _ _ => .stuck
        | _ => fun _ _ => .stuck)
      else mIAnyO (itsB C) (trE n C e)
    | .Call (.Name x _) [a, b] [] _ =>
      if x = ("range" : Str) then (if gloB C.sc x && C.G.frA.contains x && noStar a && noStar b then mIRng2 (trA n C [a, b]) else fun _ _ => .stuck)
      else if x = ("zip" : Str) then (match tg with
        | .Tuple .. => if gloB C.sc x && C.G.frA.contains x && noStar a && noStar b then mIZip (trA n C [a, b]) else fun _ _ => .stuck
        | _ => fun _ _ => .stuck)
      else mIAnyO (itsB C) (trE n C e)
    | e => mIAnyO (itsB C) (trE n C e)
end
end Pc
set_option Elab.async false
set_option linter.all false
set_option maxRecDepth 100000
set_option maxHeartbeats 1000000
set_option autoImplicit false
/-! PcSo: the reading is right -/
namespace Pc
open PySem PySem.Spec PyProof.Rows L2

structure GOk (G : GE) (Y : Dy) (X : Cx) (lev : Nat) : Prop where
  con : ∀ x d, G.con.lookup x = some d → ∃ u v, X.mg x = some u ∧ RelV v u ∧ ∀ F io, Rel X.K F io d v
  fns : ∀ x k, G.fnA.lookup x = some k → ∃ f, X.mg x = some (.ref f) ∧ PySem.W.keepIn X.K (.ref f) = true ∧ FnM X lev f k (Y.call x)
  cls : ∀ x b k, G.clA.lookup x = some (b, k) → X.mg x = some (.ref (He.ga X.K x)) ∧ ∃ fI, Mk X.K (He.ga X.K x) fI ∧ FnM X lev fI k (Y.meth x "__init__")
  own : ∀ name c k, G.meA.lookup (name, c) = some k → ∃ g, Cls X.K (He.ga X.K c) ∧ Meth X.K (He.ga X.K c) name g ∧ FnM X lev g k (Y.meth c name)
  ok : ∀ c f, G.okA.contains (c, f) = true → Cls X.K (He.ga X.K c) ∧ NoAttr X.K (He.ga X.K c) f
  fr : ∀ x, G.frA.contains x = true → X.mg x = none
  gd : X.A.guards = some []
  exs : ∀ x fm fl, G.exA.lookup x = some (fm, fl) → X.mg x = some (.ref (He.ga X.K x)) ∧ ExaOk X.prog X.K (He.ga X.K x) fm fl
  xa : ∀ c f, G.xaA.contains (c, f) = true → XfC X.K (He.ga X.K c) ∧ PySem.W.findIn X.K (.ref (He.ga X.K c)) f = some none
  isi : ∀ c tb, G.isA.lookup c = some tb → (∃ u, ClsN X.K X.mg c u) ∧ ∀ k b, tb.lookup k = some b → KdOk X.K k ∧ ∃ u, ClsN X.K X.mg c u ∧ PySem.W.kitOne X.K (tyV X.K k) u = some b
  em : ∀ c x b, G.emA.lookup (c, x) = some b → PySem.W.exmOne X.K (.ref (He.ga X.K c)) (.ref (He.ga X.K x)) = some b
  its : ∀ c f, G.itA.lookup c = some f → ItF X.prog X.w X.K X.mg X.base c f
structure COk (C : TC) (X : Cx) (W : WX) (lev : Nat) : Prop where
  kind : X.env.scope.kind = .function
  sc : X.env.scope = C.sc
  N : X.N = C.N
  nd : C.N.Nodup
  calm : X.calm = true
  fn : ∀ x, C.fnS x = true → X.fn x = true
  room : Room (lev + 1) X.A
  tk : Takes X W
  g : GOk C.G C.Y X lev
section
variable {C : TC} {X : Cx} {W : WX} {lev : Nat}
theorem COk.hu (c : COk C X W lev) : X.A.units + 65 < cLine := by have := c.room.un; omega
theorem GOk.blk {G : GE} {Y : Dy} {s : Shared} {H : Hp} {scope : Scope} {cenv : PySem.Env} {fp : List Addr} (g : GOk G Y X lev) : GOk G Y (X.blk s H scope cenv fp) lev where
  con := g.con
  fns := fun x k h => by obtain ⟨f, h1, h2, h3⟩ := g.fns x k h; exact ⟨f, h1, h2, ⟨h3.gd, h3.ex⟩⟩
  cls := fun x b k h => by obtain ⟨h1, f, h2, h3⟩ := g.cls x b k h; exact ⟨h1, f, h2, ⟨h3.gd, h3.ex⟩⟩
  own := fun n c k h => by obtain ⟨f, h1, h2, h3⟩ := g.own n c k h; exact ⟨f, h1, h2, ⟨h3.gd, h3.ex⟩⟩
  ok := g.ok
  fr := g.fr
  gd := g.gd
  exs := g.exs
  xa := g.xa
  isi := g.isi
  em := g.em
  its := g.its
theorem COk.blk {scope : Scope} {own : List (Str × Nat)} (c : COk C X W lev) (ok : BlkOk X.N X.env.scope scope own) (s : Shared) (H : Hp) (A : Addr) (cl : List (Str × Addr)) (fp : List Addr) :
    COk (blkTC C scope) (X.blk s H scope (compEnvC scope cl A X.env) fp) W0 lev where
  kind := ok.kind
  sc := by
    show relS scope X.env.scope = relS scope C.sc
    rw [c.sc]
  N := c.N
  nd := c.nd
  calm := c.calm
  fn := fun x h => h
  room := c.room
  tk := fun u s' ⟨a, B, sI, pins, σ, H, cls, d, e, I, nb, up, sky, na, os, ag, w⟩ => False.elim w
  g := c.g.blk
theorem COk.gl (c : COk C X W lev) {x : Str} (h : gloB C.sc x = true) : Gl X x := by
  unfold gloB at h
  show X.env.scope.names.lookup x = _
  rw [c.sc]
  split at h
  · assumption
  · cases h
theorem COk.vis (c : COk C X W lev) {x : Str} (h : visB C.sc x = true) : Vis X.env.scope x := by
  unfold visB at h
  unfold Vis
  rw [c.sc]
  split at h <;> first | exact .inl (by assumption) | exact .inr (.inl (by assumption)) | exact .inr (.inr (by assumption)) | cases h
theorem COk.loc (c : COk C X W lev) {x : Str} (h : locB C x = true) : L2.Loc X.env.scope x ∧ (X.fn x = true ∨ X.env.scope.names.lookup x = some .local) := by
  unfold locB at h
  unfold L2.Loc
  rw [c.sc]
  split at h
  · rename_i e; exact ⟨.inl e, .inr e⟩
  · rename_i e; exact ⟨.inr e, .inl (c.fn x h)⟩
  · cases h
theorem plainX_ok {x : Str} (h : plainX x = true) : (x == ("__debug__" : Str)) = false ∧ (x == ("__classdict__" : Str)) = false := by
  unfold plainX at h
  rw [Bool.and_eq_true] at h
  exact ⟨by simpa using h.1, by simpa using h.2⟩
theorem so_name (c : COk C X W lev) {x : Str} {pos : Pos} : PE X (.Name x pos) (tE X.K W (trName C x)) := by
  unfold trName
  split
  · rename_i hp
    obtain ⟨p1, p2⟩ := plainX_ok hp
    split
    · rename_i hv
      split
      · rename_i i hi
        exact pm_var (by rw [c.N]; exact ixOf_ok hi) (c.vis hv) p1 p2
      · exact pm_stuck
    · split
      · rename_i hg
        split
        · rename_i d hd
          obtain ⟨u, v, h1, h2, h3⟩ := c.g.con x d hd
          exact pm_const (pe_glob (c.gl hg) h1 h2 p1) h3
        · exact pm_stuck
      · exact pm_stuck
  · exact pm_stuck
theorem bltG_ok {X : Cx} (hc : X.calm = true) (hg : X.A.guards = some []) (hu : X.A.units + 65 < cLine) {x : Str} {f : List D → Mem → R RV} (h : bltG x = some f) : Blt X x f := by
  unfold bltG at h
  split at h
  · rename_i e; subst e; cases h; exact ⟨⟨_, by decide +kernel, .inl ⟨_, rfl⟩, blt_repr hg hu⟩, by decide +kernel, by decide +kernel⟩
  split at h
  · rename_i e; subst e; cases h; exact ⟨⟨_, by decide +kernel, .inl ⟨_, rfl⟩, blt_sum2 hc⟩, by decide +kernel, by decide +kernel⟩
  · exact bltF_ok hc h
theorem so_callN (c : COk C X W lev) {x : Str} {es : List Expr} {p pos : Pos} {ms : MDs} (hn : es.all noStar = true) (hms : es = [] → ms = mNil) (ha : PA X es (tDs X.K W ms)) : PE X (.Call (.Name x p) es [] pos) (tE X.K W (trCallN C x ms)) := by
  unfold trCallN
  split
  · rename_i hh
    rw [Bool.and_eq_true] at hh
    obtain ⟨p1, p2⟩ := plainX_ok hh.1
    have hg := c.gl hh.2
    split
    · rename_i k hk
      obtain ⟨f, h1, h2, h3⟩ := c.g.fns x k hk
      exact pm_call h3 (c.room.mono (Nat.le_succ _)) c.tk hg h1 h2 p1 hn hms ha
    · split
      · rename_i b k hk
        obtain ⟨h1, fI, h2, h3⟩ := c.g.cls x b k hk
        exact pm_make h2 h3 c.room c.tk hg h1 p1 hn hms ha
      · split
        · rename_i fm fl he
          obtain ⟨h1, h2⟩ := c.g.exs x fm fl he
          exact pm_exo h2 c.g.gd c.room c.tk hg h1 p1 hn hms ha
        · split
          · rename_i hf
            split
            · rename_i f hb
              exact pm_blt (bltG_ok c.calm c.g.gd (by have := c.hu; omega) hb) hg (c.g.fr x hf) hn hms ha
            · exact pm_stuck
          · exact pm_stuck
  · exact pm_stuck
theorem so_G (c : COk C X W lev) : ∀ (n : Nat) (e : Expr) (g : MG), trG C n e = some g → PG X e (tG X.K g)
  | 0, e, g, h => by cases h
  | n + 1, e, g, h => by
    unfold trG at h
    split at h
    · rename_i x pos
      split at h
      · rename_i hl
        cases q : ixOf x C.N with
        | none => rw [q] at h; cases h
        | some i =>
          rw [q] at h
          cases h
          obtain ⟨h1, h2⟩ := c.loc hl
          exact gm_name (by rw [c.N]; exact c.nd) (by rw [c.N]; exact ixOf_ok q) h1 h2
      · cases h
    · rename_i es k pos
      split at h
      · rename_i hs
        cases q : es.foldr (fun e r => gJoin (trG C n e) r) (some gsNil) with
        | none => rw [q] at h; cases h
        | some gs =>
          rw [q] at h
          cases h
          have all : ∀ (l : List Expr) (gs : MGs), l.all noStar = true → l.foldr (fun e r => gJoin (trG C n e) r) (some gsNil) = some gs → PGs X l (tGs X.K gs) := by
            intro l
            induction l with
            | nil => intro gs _ e; cases e; exact gsm_nil
            | cons a l ih =>
              intro gs hs e
              rw [List.all_cons, Bool.and_eq_true] at hs
              rw [List.foldr_cons] at e
              cases e1 : trG C n a with
              | none => rw [e1] at e; cases e
              | some g0 =>
                cases e2 : l.foldr (fun e r => gJoin (trG C n e) r) (some gsNil) with
                | none => rw [e1, e2] at e; cases e
                | some gs0 =>
                  rw [e1, e2] at e
                  cases e
                  exact gsm_cons (so_G c n a g0 e1) (ih gs0 hs.2 e2) hs.1
          exact gm_tup c.calm (all es gs hs q) hs rfl
      · cases h
    · cases h
theorem plain_ok {i : Expr} (h : notSl i = true) : PlainIx i := by
  intro o v
  cases i <;> first | rfl | cases h
theorem fold_ok {i : Expr} (h : notSet i = true) (env : PySem.Env) (x : Value) : foldedSetIterable i env x = pure x := by
  cases i <;> first | rfl | cases h
end
end Pc
set_option Elab.async false
set_option linter.all false
set_option maxRecDepth 100000
set_option maxHeartbeats 4000000
set_option autoImplicit false
/-! PcS2: expressions -/
namespace Pc
open PySem PySem.Spec PyProof.Rows L2
section
variable {X : Cx} {W : WX}
theorem pt_stuck {e : Expr} : PT X e (tT X.K W fun _ _ => .stuck) := ⟨fun pins s σ H Q I ⟨F, io, env, M, a, b, p⟩ => p.elim⟩
theorem pw_stuck {e : Expr} : PW X e (tT X.K W fun _ _ => .stuck) := ⟨fun wh pins s σ H Q I ⟨F, io, env, M, a, b, p⟩ => p.elim⟩
theorem pts_stuck {es : List Expr} : PTs X es (tT X.K W fun _ _ => .stuck) := ⟨fun pins s σ H Q I ⟨F, io, env, M, a, b, p⟩ => p.elim⟩
theorem pa_stuck {es : List Expr} : PA X es (tDs X.K W fun _ _ => .stuck) := ⟨fun ps pins s σ H Q I ⟨F, io, env, M, a, b, p⟩ => p.elim⟩
theorem po_stuck {o : Option Expr} : PO X o (tP X.K W fun _ _ => .stuck) := ⟨fun pins s σ H Q I ⟨F, io, env, M, a, b, p⟩ => p.elim⟩
theorem pi_stuck {tg e : Expr} : PI X tg e (tI X.K W fun _ _ => .stuck) := ⟨fun pins s σ H Q I ⟨F, io, env, M, a, b, p⟩ => p.elim⟩
end
structure So (n : Nat) (C : TC) (X : Cx) (W : WX) : Prop where
  e : ∀ e, PE X e (tE X.K W (trE n C e))
  t : ∀ e, PT X e (tT X.K W (trT n C e))
  w : ∀ e, PW X e (tT X.K W (trW n C e))
  f : ∀ es, PTs X es (tT X.K W (trIf n C es))
  a : ∀ es, PA X es (tDs X.K W (trA n C es))
  o : ∀ o, PO X o (tP X.K W (trO n C o))
  p : ∀ ks vs l, trP n C ks vs = some l → PMs X W ks vs l
  i : ∀ tg e, PI X tg e (tI X.K W (trI n C tg e))
theorem trA_nil (n : Nat) (C : TC) : trA n C [] = mNil := by cases n <;> rfl
theorem gE (G : GE) {X : Cx} {lev : Nat} {Y : Dy} (g : GOk G Y X lev) (f : Str) : ∀ c, okB G c f = true → Cls X.K (He.ga X.K c) ∧ NoAttr X.K (He.ga X.K c) f := fun c h => g.ok c f h
section
variable {n lev : Nat} {C : TC} {X : Cx} {W : WX}
theorem own_ok {name : Str} (c : COk C X W lev) : OwnOk X lev name (ownB C name) := ⟨fun cl k φ hk => by
  unfold ownB at hk
  cases r : C.G.meA.lookup (name, cl) with
  | none => rw [r] at hk; cases hk
  | some k' =>
    rw [r] at hk
    cases hk
    exact c.g.own _ _ _ r⟩
/-- the parts of a comprehension -/
theorem so_lc (ih : ∀ (C : TC) (X : Cx) (W : WX) (lev : Nat), COk C X W lev → So n C X W) (c : COk C X W lev) {elt tg : Expr} {ifs : List Expr} {scope : Scope} {g : MG} (hg : trG (blkTC C scope) n tg = some g) (hb : blkC C.N C.sc scope (ownOf C.N scope) = true) :
    BlkOk X.N X.env.scope scope (ownOf C.N scope) ∧
    (∀ (s : Shared) (H : Hp) (A : Addr) (cl : List (Str × Addr)) (fp : List Addr), PG (X.blk s H scope (compEnvC scope cl A X.env) fp) tg (tG X.K g)) ∧
    (∀ (s : Shared) (H : Hp) (A : Addr) (cl : List (Str × Addr)) (fp : List Addr), PTs (X.blk s H scope (compEnvC scope cl A X.env) fp) ifs (tT X.K W0 (trIf n (blkTC C scope) ifs))) ∧
    (∀ (s : Shared) (H : Hp) (A : Addr) (cl : List (Str × Addr)) (fp : List Addr), PE (X.blk s H scope (compEnvC scope cl A X.env) fp) elt (tE X.K W0 (trE n (blkTC C scope) elt))) := by
  have ok : BlkOk X.N X.env.scope scope (ownOf C.N scope) := by
    rw [c.N, c.sc]
    exact blkOk_by hb
  have cb := fun s H A cl fp => c.blk ok s H A cl fp
  exact ⟨ok, fun s H A cl fp => so_G (cb s H A cl fp) n tg g hg, fun s H A cl fp => (ih _ _ _ _ (cb s H A cl fp)).f ifs, fun s H A cl fp => (ih _ _ _ _ (cb s H A cl fp)).e elt⟩
theorem so_e (ih : ∀ (C : TC) (X : Cx) (W : WX) (lev : Nat), COk C X W lev → So n C X W) (c : COk C X W lev) (e : Expr) : PE X e (tE X.K W (trE (n + 1) C e)) := by
  have q := ih C X W lev c
  unfold trE
  split
  · exact pm_const pe_non fun _ _ => rfl
  · exact pm_const pe_bl fun _ _ => rfl
  · exact pm_const pe_int fun _ _ => rfl
  · exact pm_const pe_str fun _ _ => rfl
  · exact so_name c
  · exact pm_bin (q.e _) (q.e _)
  · split
    · rename_i h; exact pm_cmp c.hu (q.e _) (q.e _) h
    · exact pm_stuck
  · split
    · rename_i h; exact pm_chain c.hu (q.e _) (q.e _) (q.e _) h
    · exact pm_stuck
  · exact pm_one (q.e _)
  · exact pm_and (q.e _) (q.e _)
  · exact pm_or (q.e _) (q.e _)
  · exact pm_not (q.e _)
  · exact pm_neg (q.e _)
  · exact pm_if (q.t _) (q.e _) (q.e _)
  · exact pm_tup (q.a _)
  · exact pm_lst (q.a _)
  · exact pm_dnew
  · split
    · rename_i l hl
      split
      · rename_i h15; exact pm_dict (q.p _ _ _ hl) (fun z => nomatch z) h15
      · exact pm_stuck
    · exact pm_stuck
  · split
    · rename_i h; exact pm_attrX (gE C.G c.g _) (fun cl h => c.g.xa _ _ h) (q.e _) h
    · exact pm_stuck
  · split
    · exact pm_slice (q.e _) (q.o _) (q.o _)
    · split
      · rename_i h; exact pm_idx (by have := c.hu; omega) (q.e _) (q.e _) (plain_ok h)
      · exact pm_stuck
  · split
    · rename_i g hg
      split
      · rename_i h
        rw [Bool.and_eq_true] at h
        obtain ⟨ok, h1, h2, h3⟩ := so_lc ih c hg h.1
        exact pm_lc c.calm (by rw [c.N]; exact c.nd) (q.i _ _) ok h1 h2 h3 (fold_ok h.2 _)
      · exact pm_stuck
    · exact pm_stuck
  · split
    · rename_i hx
      subst hx
      split
      · rename_i e cn pc
        split
        · rename_i h
          simp only [Bool.and_eq_true] at h
          obtain ⟨⟨⟨⟨h1, h2⟩, h3⟩, h4⟩, h5⟩ := h
          split
          · rename_i tb ht
            obtain ⟨i1, i2⟩ := c.g.isi _ _ ht
            exact pm_isi (c.gl h1) (c.g.fr _ h2) i1 (c.gl h3) (plainX_ok h4).1 (q.e _) h5 i2
          · exact pm_stuck
        · exact pm_stuck
      · exact pm_stuck
    · split
      · rename_i hx
        subst hx
        split
        · split
          · rename_i h
            simp only [Bool.and_eq_true] at h
            exact pm_lenO c.room c.tk (c.gl h.1.1) (c.g.fr _ h.1.2) (own_ok c) h.2 (q.a _)
          · exact pm_stuck
        · exact pm_stuck
      · split
        · rename_i hx
          subst hx
          split
          · split
            · rename_i h
              simp only [Bool.and_eq_true] at h
              exact pm_listO c.g.gd c.room c.tk (fun cl f h => c.g.its cl f h) (own_ok c) (c.gl h.1.1) (c.g.fr _ h.1.2) h.2 (q.a _)
            · exact pm_stuck
          · exact pm_stuck
        · split
          · rename_i h
            exact so_callN c h (fun e => by rw [e]; exact trA_nil n C) (q.a _)
          · exact pm_stuck
  · split
    · rename_i h
      simp only [Bool.and_eq_true, decide_eq_true_eq] at h
      obtain ⟨⟨⟨h1, h2⟩, h3⟩, h4⟩ := h
      refine pm_meth (fun _ _ _ => c.room.mono (Nat.le_succ _)) c.tk (q.e _) (q.a _) h1 h2 h3 h4 (fun e => by rw [e]; exact trA_nil n C) methAlts_ok (own_ok c)
    · exact pm_stuck
  · exact pm_stuck
theorem so_t (ih : ∀ (C : TC) (X : Cx) (W : WX) (lev : Nat), COk C X W lev → So n C X W) (c : COk C X W lev) (e : Expr) : PT X e (tT X.K W (trT (n + 1) C e)) := by
  have q := ih C X W lev c
  unfold trT
  split
  · exact (q.w _).pt
  · exact tm_not (q.t _)
  · split
    · rename_i h; exact tm_cmp c.hu (q.e _) (q.e _) h
    · exact pt_stuck
  · split
    · rename_i h; exact tm_chain c.hu (q.e _) (q.e _) (q.e _) h
    · exact pt_stuck
  · exact pt_stuck
  · exact pt_stuck
  · rename_i h1 h2 h3 h4 h5 h6
    refine tm_tru (q.e _) fun wh => ?_
    cases e <;> first
      | rfl
      | exact absurd rfl (h1 _ _ _)
      | exact absurd rfl (h5 _ _ _ _)
      | exact absurd rfl (h6 _ _ _ _)
      | (rename_i op _ _; cases op <;> first | rfl | exact absurd rfl (h2 _ _))
theorem so_w (ih : ∀ (C : TC) (X : Cx) (W : WX) (lev : Nat), COk C X W lev → So n C X W) (c : COk C X W lev) (e : Expr) : PW X e (tT X.K W (trW (n + 1) C e)) := by
  have q := ih C X W lev c
  unfold trW
  split
  · rename_i op x p
    cases op with
    | And => exact pw_and1 (q.t _)
    | Or => exact pw_or1 (q.t _)
  · exact wm_and (q.t _) (q.w _)
  · exact wm_or (q.t _) (q.w _)
  · exact pw_stuck
theorem so_f (ih : ∀ (C : TC) (X : Cx) (W : WX) (lev : Nat), COk C X W lev → So n C X W) (c : COk C X W lev) (es : List Expr) : PTs X es (tT X.K W (trIf (n + 1) C es)) := by
  have q := ih C X W lev c
  unfold trIf
  split
  · exact ptsm_nil
  · exact pts_one (q.t _)
  · exact pts_stuck
theorem so_a (ih : ∀ (C : TC) (X : Cx) (W : WX) (lev : Nat), COk C X W lev → So n C X W) (c : COk C X W lev) (es : List Expr) : PA X es (tDs X.K W (trA (n + 1) C es)) := by
  have q := ih C X W lev c
  unfold trA
  split
  · exact am_nil
  · exact am_star (q.e _) (q.a _)
  · rename_i e r h
    refine am_consA (q.e _) (q.a _) (star_cons ?_ _ _)
    cases e <;> first | rfl | exact absurd rfl (h _ _)
theorem so_o (ih : ∀ (C : TC) (X : Cx) (W : WX) (lev : Nat), COk C X W lev → So n C X W) (c : COk C X W lev) (o : Option Expr) : PO X o (tP X.K W (trO (n + 1) C o)) := by
  have q := ih C X W lev c
  unfold trO
  split
  · exact om_none
  · exact om_some (q.e _)
theorem so_p (ih : ∀ (C : TC) (X : Cx) (W : WX) (lev : Nat), COk C X W lev → So n C X W) (c : COk C X W lev) (ks : List (Option Expr)) (vs : List Expr) (l : List (ME × ME)) (h : trP (n + 1) C ks vs = some l) : PMs X W ks vs l := by
  have q := ih C X W lev c
  unfold trP at h
  split at h
  · cases h; exact .nil
  · rename_i k ks v vs
    cases r : trP n C ks vs with
    | none => rw [r] at h; cases h
    | some l' =>
      rw [r] at h
      cases h
      exact .cons (q.e _) (q.e _) (q.p _ _ _ r)
  · cases h
theorem so_i (ih : ∀ (C : TC) (X : Cx) (W : WX) (lev : Nat), COk C X W lev → So n C X W) (c : COk C X W lev) (tg e : Expr) : PI X tg e (tI X.K W (trI (n + 1) C tg e)) := by
  have q := ih C X W lev c
  unfold trI
  split
  · split
    · rename_i hx
      subst hx
      split
      · rename_i h
        simp only [Bool.and_eq_true] at h
        exact im_rng1 (c.gl h.1.1) (c.g.fr _ h.1.2) (q.a _) h.2
      · exact pi_stuck
    · split
      · rename_i hx
        subst hx
        split
        · split
          · rename_i h
            simp only [Bool.and_eq_true] at h
            exact im_enu (c.gl h.1.1) (c.g.fr _ h.1.2) (q.a _) h.2
          · exact pi_stuck
        · exact pi_stuck
      · exact im_anyO c.g.gd c.room.hd c.room.depth (fun cl f h => c.g.its cl f h) (q.e _)
  · split
    · rename_i hx
      subst hx
      split
      · rename_i h
        simp only [Bool.and_eq_true] at h
        exact im_rng2 (c.gl h.1.1.1) (c.g.fr _ h.1.1.2) (q.a _) h.1.2 h.2
      · exact pi_stuck
    · split
      · rename_i hx
        subst hx
        split
        · split
          · rename_i h
            simp only [Bool.and_eq_true] at h
            exact im_zip (c.gl h.1.1.1) (c.g.fr _ h.1.1.2) (q.a _) h.1.2 h.2
          · exact pi_stuck
        · exact pi_stuck
      · exact im_anyO c.g.gd c.room.hd c.room.depth (fun cl f h => c.g.its cl f h) (q.e _)
  · exact im_anyO c.g.gd c.room.hd c.room.depth (fun cl f h => c.g.its cl f h) (q.e _)
end
/-- the reading of every expression is right -/
theorem so : ∀ (n : Nat) (C : TC) (X : Cx) (W : WX) (lev : Nat), COk C X W lev → So n C X W
  | 0, C, X, W, lev, c => ⟨fun _ => pm_stuck, fun _ => pt_stuck, fun _ => pw_stuck, fun _ => pts_stuck, fun es => by
      cases es with
      | nil => exact am_nil
      | cons a es => exact pa_stuck, fun _ => po_stuck, fun _ _ _ h => (by cases h), fun _ _ => pi_stuck⟩
  | n + 1, C, X, W, lev, c => ⟨so_e (so n) c, so_t (so n) c, so_w (so n) c, so_f (so n) c, so_a (so n) c, so_o (so n) c, so_p (so n) c, so_i (so n) c⟩
end Pc
set_option Elab.async false
set_option linter.all false
set_option maxRecDepth 100000
set_option maxHeartbeats 2000000
set_option autoImplicit false
/-! PcR1: raise C(..) of an own exception -/
namespace Pc
open PySem PySem.Spec PyProof.Rows L2 NdefX
/-- the fields of a made exception -/
def exoF (fm : Bool) (fl : Option Str) (ds : List D) : Option (List Str × List D) := match fl, ds with
  | none, [] => some ([], [])
  | some f, [d] => if fm then (if fmD d then some ([f], [d]) else none) else some ([f], [d])
  | _, _ => none
def mRaise (c : Str) (fm : Bool) (fl : Option Str) (ms : MDs) : MS := fun env M => (ms env M).toS env fun ds M1 => match exoF fm fl ds with
  | some p => .exc c p.1 p.2 env M1
  | none => .stuck
section
variable {X : Cx} {pins : List (Addr × Obj)} {σ : L2.St}
/-- a made exception without a dict is let go -/
theorem bare_end {Ha Hb : Hp} {pa hb : Heap} {ga gb : Array GenState} {da db : Drawn} {ta tb : Nat} {oa ob : OsState} {x C : Addr} {pm : Heap} (J : Inv X pins σ Ha ⟨pa, ga, da, ta, oa⟩) (hx : pa.objs.size ≤ x) (kp : ∀ b o, pa.get? b = some o → pm.get? b = some o)
    (U : Un (frs X.stack) [] (upd Ha x (exo x C none)) Hb pm hb) (ok : HOk X.prog X.w Hb hb) (eo : ob = oa) (bb : AllBare gb) (ex : Hb x = some (exo x C none)) :
    ∃ (t0 : Addr) (Z : Heap), Inv X pins σ (del Hb x) ⟨Z, gb, db, tb, ob⟩ ∧ (∀ b o, Z.get? b = some o → hb.get? b = some o) ∧ Z.get? x = none ∧
      hb.get? x = some ({ cls := .ref C, dict := none, data := .fields #[.ref t0, .none, .none, .none, .bool false, .none] } : Obj) := by
  obtain ⟨t0, hoe⟩ := exo_at ok ex
  have nA : Ha x = none := J.hok.fresh hx
  obtain ⟨Z, z1, z2⟩ := restrict hb fun b => decide (b ≠ x)
  have zk : ∀ b, b ≠ x → Z.get? b = hb.get? b := fun b n => z1 b (decide_eq_true n)
  have zx : Z.get? x = none := z2 x (by simp)
  have far : ∀ {b : Addr} {o : Obj}, pa.get? b = some o → b ≠ x := fun {b o} e => Nat.ne_of_lt (Nat.lt_of_lt_of_le (Heap.lt_size e) hx)
  have up0 : ∀ {b : Addr}, b ≠ x → Ha b = none → upd Ha x (exo x C none) b = none := fun {b} n e => by rw [upd_ne n]; exact e
  have V : Un (frs X.stack) [] Ha (del Hb x) pa Z := {
    keep := fun b o e n h1 h2 => (zk b (far e)).trans (U.keep b o (kp b o e) (up0 (far e) n) h1 h2)
    slot := fun b o e n h1 h2 => by
      obtain ⟨sl, q⟩ := U.slot b o (kp b o e) (up0 (far e) n) h1 h2
      exact ⟨sl, (zk b (far e)).trans q⟩
    free := fun b o e n h1 => (del_ne (far e)).trans (U.free b o (kp b o e) (up0 (far e) n) h1)
    there := fun b o e h1 => by
      obtain ⟨o2, q⟩ := U.there b o (kp b o e) h1
      exact ⟨o2, (zk b (far e)).trans q⟩
    tups := fun b xs e => (del_ne (ne_of_none e nA)).trans (U.tups b xs ((upd_ne (ne_of_none e nA)).trans e))
    frzs := fun b o v e => (del_ne (ne_of_none e nA)).trans (U.frzs b o v ((upd_ne (ne_of_none e nA)).trans e))
    tbls := fun b ps e => by
      obtain ⟨more, q⟩ := U.tbls b ps ((upd_ne (ne_of_none e nA)).trans e)
      exact ⟨more, (del_ne (ne_of_none e nA)).trans q⟩ }
  have ok3 : HOk X.prog X.w (del Hb x) Z := fun b o e => by
    have nb : b ≠ x := fun q => by
      rw [q, del_same] at e
      cases e
    rw [del_ne nb] at e
    have no : ∀ {c : Addr}, Hb c = some (.own b) → c ≠ x := fun {c} hc => at_ne ex hc exo_own
    exact (ok b o e).stay (fun c v hc y => by
        have nc : c ≠ x := by
          rcases hc with hc | hc
          · rw [hc]; exact nb
          · exact no hc
        exact (zk c nc).trans y)
      (fun c hc => (del_ne (no hc)).trans hc) (fun c xs hc => (del_ne (at_ne ex hc exo_tup)).trans hc)
  have J2 : Inv X pins σ (del Hb x) ⟨Z, gb, db, tb, ob⟩ := J.call' (ch := []) eo V ok3 bb (fun b q => absurd q (by simp))
  refine ⟨t0, Z, J2, fun b o e => ?_, zx, hoe⟩
  by_cases q : b = x
  · rw [q, zx] at e
    cases e
  · exact (zk b q).symm.trans e
/-- what is asked of the making -/
def MkQ (X : Cx) (c : Str) (fm : Bool) (fl : Option Str) (Q : XK) (vs : List V) (H : Hp) : Prop :=
  ∃ F io M ds p, HA X.K F io H M ∧ RelL X.K F io ds vs ∧ exoF fm fl ds = some p ∧ ∀ F' io' H' dd, HA X.K F' io' H' M → Ex F io H F' io' H' → ExcAt X.K F' io' H H' p.1 p.2 dd → Q (.ref (He.ga X.K c)) dd H'
theorem made_exo {W : WX} {c : Str} {lev : Nat} {fm : Bool} {fl : Option Str} {H : Hp} {s : Shared} {Q : XK} {us : List Value} {vs : List V} (T : ExaOk X.prog X.K (He.ga X.K c) fm fl) (gd : X.A.guards = some []) (hr : Room (lev + 1) X.A) (tk : Takes X W)
    (I : Inv X pins σ H s) (r : Vals vs us) (h : MkQ X c fm fl Q vs H) : wpAny (model X.prog X.w) X.A (call (.ref (He.ga X.K c)) us) (MkP X pins σ Q) X.xe s := by
  obtain ⟨F, io, M, ds, p, ha, rl, hp, q⟩ := h
  obtain ⟨Tc, fI, fd, ps, iC, tI, bd, lp, F0⟩ := T
  obtain ⟨nm, qn, N, bs, bm, sn, sub, ab, col, dd, k0, k1, k2, k3, k5, hC, hbm⟩ := Tc.cls
  have Fn := F0 X.w X.mg X.base lev
  have hsz : s.heap.objs.size ≤ s.heap.objs.size + 1 := Nat.le_succ _
  have hn : H (s.heap.objs.size + 1) = none := I.hok.fresh hsz
  have hsp : spX (He.ga X.K c) fm fl (V.ref (s.heap.objs.size + 1) :: vs) (upd H (s.heap.objs.size + 1) (exo (s.heap.objs.size + 1) (He.ga X.K c) none))
      (fun v H2 => v = .non ∧ ((H2 = upd H (s.heap.objs.size + 1) (exo (s.heap.objs.size + 1) (He.ga X.K c) none) ∧ Q (.ref (He.ga X.K c)) none H) ∨
        ∃ dx f x, H dx = none ∧ dx ≠ s.heap.objs.size + 1 ∧ H2 = upd (upd H dx (exd dx [(f, x)])) (s.heap.objs.size + 1) (exo (s.heap.objs.size + 1) (He.ga X.K c) (some dx)) ∧ Q (.ref (He.ga X.K c)) (some dx) (upd H dx (.xd [(f, x)])))) (WE W σ) := by
    generalize s.heap.objs.size + 1 = a at hn
    cases fl with
    | none =>
      cases ds with
      | nil =>
        have e : vs = [] := rl
        subst e
        have e2 : p = ([], []) := (Option.some.inj hp).symm
        subst e2
        exact ⟨a, rfl, upd_same, rfl, .inl ⟨rfl, q F io H none ha .refl ⟨rfl, rfl⟩⟩⟩
      | cons d ds => cases hp
    | some f =>
      cases ds with
      | nil => cases hp
      | cons d ds =>
        cases ds with
        | cons d2 ds => cases hp
        | nil =>
          obtain ⟨x, l, e, rd, e2⟩ := (show ∃ v r, vs = v :: r ∧ Rel X.K F io d v ∧ RelL X.K F io [] r from rl)
          have e2 : l = [] := e2
          subst e2
          subst e
          have p2 : p = ([f], [d]) ∧ (fm = true → Fmt x) := by
            unfold exoF at hp
            dsimp only at hp
            split at hp
            · split at hp
              · rename_i hf
                exact ⟨(Option.some.inj hp).symm, fun _ => fmD_rel rd hf⟩
              · cases hp
            · rename_i hf
              exact ⟨(Option.some.inj hp).symm, fun z => absurd z hf⟩
          obtain ⟨rfl, hfm⟩ := p2
          refine ⟨a, x, rfl, hfm, upd_same, fun dx hdx ne => ⟨rfl, .inr ⟨dx, f, x, ?_, ne, ?_, ?_⟩⟩⟩
          · rw [upd_ne ne] at hdx
            exact hdx
          · funext b
            by_cases hb : b = a
            · rw [hb, upd_same, upd_same]
            · rw [upd_ne hb, upd_ne hb]
              by_cases hd : b = dx
              · rw [hd, upd_same, upd_same]
              · rw [upd_ne hd, upd_ne hd, upd_ne hb]
          · rw [upd_ne ne] at hdx
            refine q F io _ (some dx) (ha.new hdx) (Ex.new ha hdx) ⟨[(f, x)], upd_same, rfl, ?_, hdx⟩
            exact ⟨x, [], rfl, rd, rfl⟩
  have hus : us.length ≤ sizeLine := by
    rw [← r.length, sizeLine_eq]
    have z := spX_len _ _ _ _ hsp
    rw [List.length_cons] at z
    cases fl <;> (have z : _ = _ := z; unfold nOf at z; simp only at z; omega)
  have r2 : Vals (V.ref (s.heap.objs.size + 1) :: vs) (Value.ref (s.heap.objs.size + 1) :: us) := .cons rfl r
  have hl2 : (Value.ref (s.heap.objs.size + 1) :: us).length = ps.length := by rw [← r2.length]; exact Fn.len _ _ _ _ hsp
  obtain ⟨hp0, g, dr, tk0, os⟩ := s
  have kk : ∀ b o, hp0.get? b = some o → ((hp0.push (PySem.W.kdv_tup us)).push (PySem.HandSPX.excO (He.ga X.K c) hp0.objs.size)).get? b = some o := fun b o e => Heap.get?_push_of_some _ (Heap.get?_push_of_some _ e)
  have hget : ((hp0.push (PySem.W.kdv_tup us)).push (PySem.HandSPX.excO (He.ga X.K c) hp0.objs.size)).get? (hp0.objs.size + 1) = some (PySem.HandSPX.excO (He.ga X.K c) hp0.objs.size) := by heap_get
  have I2 : Inv X pins σ (upd H (hp0.objs.size + 1) (exo (hp0.objs.size + 1) (He.ga X.K c) none)) ⟨(hp0.push (PySem.W.kdv_tup us)).push (PySem.HandSPX.excO (He.ga X.K c) hp0.objs.size), g, dr, tk0, os⟩ :=
    I.laid (t' := tk0) (a := hp0.objs.size + 1) (o := exo (hp0.objs.size + 1) (He.ga X.K c) none) (h' := (hp0.push (PySem.W.kdv_tup us)).push (PySem.HandSPX.excO (He.ga X.K c) hp0.objs.size)) kk hsz (exo_ok hget)
  have bb := bd _ (Value.ref (hp0.objs.size + 1) :: us) I2.kIn (by rw [List.append_nil]; exact hl2)
  rw [List.append_nil] at bb
  refine wpAny_call (PySem.HandSPX.call_own PySem.F.excBase_ValueError (fun Y => PySem.HandSPX.refsVE_contains Y bm hbm) (I.kIn _ _ hC) (PySem.W.looks_findIn I.kIn iC) (fun self => PySem.W.bind_fn I.kIn self tI) hus
    (codeAny_mono (Fn.run _ X.stack _ _ ⟨Value.ref (hp0.objs.size + 1) :: us, []⟩ (Value.ref (hp0.objs.size + 1) :: us) _ _ (WE W σ) (guards_make.trans gd) (hr.make _ us []) (I2.env0.make _ us []) bb r2 hsp) fun r s' hq' => ?_))
  cases r with
  | error e => exact passAt tk σ pins _ _ e s' I2 hq'
  | ok fl2 =>
    cases fl2 with
    | next => exact False.elim hq'
    | brk => exact False.elim hq'
    | cont => exact False.elim hq'
    | ret u =>
      obtain ⟨v, H2, os2, bare2, un2, hok2, rv, ev, q3⟩ := hq'
      subst ev
      obtain ⟨h2, g2, d2, t2, os'⟩ := s'
      refine ⟨rv, ?_⟩
      rcases q3 with ⟨e2, q3⟩ | ⟨dx, f, x, hd1, ne, e2, q3⟩
      · subst e2
        obtain ⟨t0, Z, J, kZ, ze, hoe⟩ := bare_end (db := d2) (tb := t2) I hsz kk un2 hok2 os2 bare2 upd_same
        have eH : del (upd H (hp0.objs.size + 1) (exo (hp0.objs.size + 1) (He.ga X.K c) none)) (hp0.objs.size + 1) = H := by
          funext b
          by_cases hb : b = hp0.objs.size + 1
          · rw [hb, del_same]; exact hn.symm
          · rw [del_ne hb, upd_ne hb]
        rw [eH] at J
        exact ⟨_, _, _, ⟨Z, g2, d2, t2, os'⟩, H, .ref (He.ga X.K c), none, rfl, J, kZ, ze, hoe, ⟨rfl, rfl⟩, rfl, rfl, hn, rfl, bare2, raises_own Tc.exC Tc.tyC, q3⟩
      · subst e2
        refine mk_end (fs := [(f, x)]) (d := dx) (raises_own Tc.exC Tc.tyC) I hsz kk un2 hok2 os2 bare2 upd_same (by rw [upd_ne ne, upd_same]) hd1 ?_
        have eH : upd (del (upd (upd H dx (exd dx [(f, x)])) (hp0.objs.size + 1) (exo (hp0.objs.size + 1) (He.ga X.K c) (some dx))) (hp0.objs.size + 1)) dx (.xd [(f, x)]) = upd H dx (.xd [(f, x)]) := by
          funext b
          by_cases hd : b = dx
          · rw [hd, upd_same, upd_same]
          · rw [upd_ne hd, upd_ne hd]
            by_cases hb : b = hp0.objs.size + 1
            · rw [hb, del_same]; exact hn.symm
            · rw [del_ne hb, upd_ne hb, upd_ne hd]
        rw [eH]
        exact q3
/-- a global thing is called, whatever is wanted of the call -/
theorem call_global {W : WX} {es : List Expr} {x : Str} {p pos : Pos} {u : Value} {ms : MDs} {H : Hp} {s : Shared} {P : List V → Hp → Prop} {R : Value → Shared → Prop} (hg : Gl X x) (hm : X.mg x = some u) (hd : (x == ("__debug__" : Str)) = false)
    (hk : ∀ h : Heap, X.K.In h → ∃ k', (k' = Keeper.frame ∨ k' = Keeper.machine ∨ k' = Keeper.boundFrame) ∧ PySem.W.Looks (model X.prog X.w) h (keeperOf u) k')
    (hn : es.all noStar = true) (hms : es = [] → ms = mNil) (ha : PA X es (tDs X.K W ms)) (I : Inv X pins σ H s) (hA : tDs X.K W ms σ H P)
    (hq : ∀ s us vs H2, Inv X pins σ H2 s → Vals vs us → P vs H2 → wpAny (model X.prog X.w) X.A (call u us) R X.xe s) :
    wpAny (model X.prog X.w) X.A (eval (.Call (.Name x p) es [] pos) X.env) R X.xe s := by
  refine wpAny_Call_Name_kw (ld_glob I hg hm ?_ hd)
  have fin : wpAny (model X.prog X.w) X.A (evalArgs u true (backTo pos (starEach es X.env)) []) (fun a s2 => X.K.In s2.heap ∧ wpAny (model X.prog X.w) X.A (call u ([] ++ a.pos) a.kw) R X.xe s2) X.xe s := by
    cases es with
    | nil =>
      rw [hms rfl] at hA
      obtain ⟨F, io, env', M, a0, e0, p0⟩ := hA
      exact PySem.evalArgs_none ⟨I.kIn, hq s [] [] H I .nil (p0 F io H [] a0 .refl rfl)⟩
    | cons e es =>
      rw [List.all_cons, Bool.and_eq_true] at hn
      have hA' := ha.run pos pins s σ H _ I hA
      rw [star_cons hn.1] at hA' ⊢
      exact Calls.evalArgs_plain (thn hA' fun us s2 ⟨vs, H2, I2, r2, q2⟩ => ⟨I2.kIn, hq s2 us vs H2 I2 r2 q2⟩)
  have hany : (((backTo pos (starEach es X.env)).any (·.1) || ([] : List (Option Str × Sem Value)).any (·.1.isNone))) = false := by rw [star_any hn X.env pos]; rfl
  exact PySem.W.callWith_of (P := fun h => X.K.In h) hany hk fin
theorem sm_raise {W : WX} {c : Str} {lev : Nat} {fm : Bool} {fl : Option Str} {ms : MDs} {es : List Expr} {p pos pos2 : Pos} (hc : X.calm = true) (T : ExaOk X.prog X.K (He.ga X.K c) fm fl) (gd : X.A.guards = some []) (hr : Room (lev + 1) X.A) (tk : Takes X W) (hg : Gl X c) (hm : X.mg c = some (.ref (He.ga X.K c)))
    (hd : (c == ("__debug__" : Str)) = false) (hn : es.all noStar = true) (hms : es = [] → ms = mNil) (ha : PA X es (tDs X.K W ms)) : PS X (.Raise (some (.Call (.Name c p) es [] pos)) none pos2) (tS X.K W (mRaise c fm fl ms)) := by
  refine PS.imp' (ps_raise (W := W) (t := fun σ H Q => tDs X.K W ms σ H fun vs H1 => MkQ X c fm fl Q vs H1) hc tk fun pins s σ H Q I h =>
    call_global hg hm hd (PySem.W.keeps_K T.T.kC) hn hms ha I h fun s us vs H2 I2 r q => made_exo T gd hr tk I2 r q) fun D σ H h => ?_
  have h' := tS_tDs (k := fun env ds M1 => match exoF fm fl ds with
    | some p => RS.exc c p.1 p.2 env M1
    | none => .stuck) h
  refine tDs_mono h' fun vs H1 ⟨ds, M1, F1, io1, env, a, er, rl, q⟩ => ?_
  cases e : exoF fm fl ds with
  | none =>
    rw [e] at q
    exact q.elim
  | some pr =>
    rw [e] at q
    exact ⟨F1, io1, M1, ds, pr, a, rl, e, fun F' io' H' dd a' x' ec => q F' io' H' dd σ a' x' (er.mono x'.sub x'.ids) ec⟩
end
end Pc
set_option Elab.async false
set_option linter.all false
set_option maxRecDepth 100000
set_option maxHeartbeats 2000000
set_option autoImplicit false
/-! PcR2: try with several clauses, with or without names -/
namespace Pc
open PySem PySem.Spec PyProof.Rows L2
/-- an except clause: its class, its name's slot, what its suite asks -/
structure HdP where
  c : Value
  slot : Option Nat
  ts : Addr → Value → Option Addr → TS
def wipeD (D : Ends) (i : Nat) : Ends := { nx := fun τ J => D.nx (τ.set i none) J, rt := D.rt, bk := fun τ J => D.bk (τ.set i none) J, ct := fun τ J => D.ct (τ.set i none) J }
def HdP.ask (h : HdP) (D : Ends) (a : Addr) (cls : Value) (d : Option Addr) (σ : L2.St) (H : Hp) : Prop := match h.slot with
  | none => h.ts a cls d D σ H
  | some i => h.ts a cls d (wipeD D i) (σ.set i (some (.ref a))) H
def wN (K : PySem.W.Frag) (Wo : WX) (D : Ends) : List HdP → WX
  | [] => Wo
  | h :: r => fun cls d σ H => ∃ b, PySem.W.exmOne K cls h.c = some b ∧ (b = true → ∀ a, H a = none → h.ask D a cls d σ H) ∧ (b = false → wN K Wo D r cls d σ H)
def SuOk (X : Cx) (st : List Stmt) (ts : Addr → Value → Option Addr → TS) : Prop :=
  ∀ (a : Addr) (o : Obj) (cls : Value) (d : Option Addr) (pn : List (Addr × Obj)), Zc cls d o → (∃ vs, o.data = .fields vs) → PSs (X.suite a ((a, o) :: pn)) st (ts a cls d)
inductive HdsN (X : Cx) : List ExceptHandler → List HdP → Prop
  | nil : HdsN X [] []
  | anon {x : Str} {c : Value} {ts : Addr → Value → Option Addr → TS} {b : Stmt} {suite : List Stmt} {np pq : Pos} {hds : List ExceptHandler} {l : List HdP} (nm : Names X x c) (su : SuOk X (b :: suite) ts) (r : HdsN X hds l) :
      HdsN X (.ExceptHandler (some (.Name x np)) none (b :: suite) pq :: hds) (⟨c, none, ts⟩ :: l)
  | named {x y : Str} {i : Nat} {c : Value} {ts : Addr → Value → Option Addr → TS} {b : Stmt} {suite : List Stmt} {np pq : Pos} {hds : List ExceptHandler} {l : List HdP} (nm : Names X x c) (iy : X.N[i]? = some y) (ly : X.env.kindOf y = some .local) (su : SuOk X (b :: suite) ts) (r : HdsN X hds l) :
      HdsN X (.ExceptHandler (some (.Name x np)) (some y) (b :: suite) pq :: hds) (⟨c, some i, ts⟩ :: l)
section
variable {X : Cx} {body : List Stmt} {h0 : ExceptHandler} {hds : List ExceptHandler} {l : List HdP} {pos : Pos} {tb : WX → TS} {Wo : WX}
theorem ps_tryN (es : X.stack = X.env :: X.outer) (ef : X.env.frame = some X.env.locals) (nd : X.N.Nodup) (tk : Takes X Wo)
    (bd : ∀ (W : WX) (pn : List (Addr × Obj)) (xe : Value → Shared → Prop), Takes (X.tr pn xe) W → PassesOwn (model X.prog X.w) X.A X.env xe → PSs (X.tr pn xe) body (tb W))
    (hk : HdsN X (h0 :: hds) l) : PS X (.Try body (h0 :: hds) [] [] pos) (fun D σ H => tb (wN X.K Wo D l) D σ H) := by
  refine ⟨fun pins s σ H D I h => ?_⟩
  have ok := I.ok
  have fr : X.A.frames = some (X.env :: X.outer) := by rw [ok.frames, es]
  refine wpAny_Try_except ?_
  have B0 := bd (wN X.K Wo D l) (X.pn ++ pins) (fun e t1 => wpAny (model X.prog X.w) X.A (noteFrame e X.env) (fun _ t2 => wpAny (model X.prog X.w) X.A (setFlight e none) (fun _ t3 => wpAny (model X.prog X.w) X.A (handleBy e X.env (h0 :: hds)) (SP X pins D) X.xe t3) X.xe t2) X.xe t1)
  refine wpAny_mono ((B0 (fun u s1 xx => ?_) PassesOwn.looking).run [] s σ H D (I.toTry _) h) (fun f s1 sp => ?_) (fun e s1 q => q)
  · obtain ⟨a, B, sI, pi, τ, J, cls, d, rfl, J1, nb, up, sky, na, eo, ag, w⟩ := xx
    have J2 : Inv X pins τ J sI := J1.ofTry ok
    have sky2 : Sky B (X.env :: X.outer) a (Zc cls d) X.env.locals s1.heap := by rw [← es]; exact sky
    show wpAny (model X.prog X.w) X.A (noteFrame (.ref a) X.env) _ _ _
    refine Sky.land Zc.steady fr ef sky2 fun g3 fl3 up3 => ?_
    have J3 : Inv X pins τ J { s1 with heap := g3 } := J2.landed nb fl3.1 (up.trans up3) eo ag
    obtain ⟨o3, v3, l3, z3, d3⟩ := fl3.there
    have nfr : a ∉ frs (X.env :: X.outer) := fun hm => by
      obtain ⟨_, o', e', hnf⟩ := fl3.2.2.1.mem hm
      rw [l3] at e'
      cases e'
      exact hnf _ d3
    have nL : a ≠ X.env.locals := fun z => nfr (List.mem_filterMap.mpr ⟨X.env, by simp, by rw [ef, z]⟩)
    have nF : a ∉ X.fs := fun hm => by
      obtain ⟨e, he, q⟩ := List.mem_filterMap.mp hm
      exact nfr (List.mem_filterMap.mpr ⟨e, by simp [he], q⟩)
    have S3 := J3.suite l3 d3 na nL nF
    have LT : PySem.W.Looks (model X.prog X.w) g3 (typeOf (.ref a)) cls := fun A Q E t k q => wpAny_typeOf_ref (k _ _ l3) (by rw [z3.1]; exact q)
    have look : ∀ {x : Str} {c : Value} {np : Pos} {Q : Value → Shared → Prop} {E : Value → Shared → Prop}, Names X x c → Q c { s1 with heap := g3 } → wpAny (model X.prog X.w) (X.A.mark (some (.ref a))) (eval (.Name x np) X.env) Q E { s1 with heap := g3 } := fun {x c np Q E} nm q => by
      obtain ⟨hg, hdbg, hm | ⟨hm, hv, hnn⟩⟩ := nm
      · exact ld_glob (X := X.suite a ((a, o3) :: (X.pn ++ pins))) S3 hg hm q hdbg
      · exact ld_blt (X := X.suite a ((a, o3) :: (X.pn ++ pins))) S3 hg hm hv q hnn hdbg
    have go : ∀ {hs : List ExceptHandler} {m : List HdP}, HdsN X hs m → wN X.K Wo D m cls d τ J → wpAny (model X.prog X.w) X.A (handleBy (.ref a) X.env hs) (SP X pins D) X.xe { s1 with heap := g3 } := by
      intro hs m hk
      induction hk with
      | nil =>
        intro w
        refine wpAny_handleBy_nil ?_
        obtain ⟨k1, k2, k3, oe, vs, Tb, oT, ts', eH, zH, dH, h1, hr⟩ := id fl3
        unfold PySem.passOn
        refine wpAny_bind (wpAny_field eH dH h1 ?_)
        rw [if_neg (show ¬ ((Value.ref Tb == Value.none) = true) from by simp)]
        have out : wpAny (model X.prog X.w) X.A (setFlight (.ref a) X.env.frame) (fun _ t => wpAny (model X.prog X.w) X.A (throw (.ref a) : Sem Flow) (SP X pins D) X.xe t) X.xe { s1 with heap := g3 } := by
          rw [ef]
          refine HandSPX.setFlight_upZ fl3 fun g4 hh4 up4 => wpAny_throw (tk _ _ ?_)
          exact ⟨a, B, sI, pins, τ, J, cls, d, rfl, J2, nb, (up.trans up3).trans up4, .inr (.inr (by rw [es]; exact hh4)), na, eo, ag, w⟩
        first
          | exact wpAny_bind (wpAny_pure (wpAny_bind out))
          | exact wpAny_bind out
      | @anon x c ts b suite np pq hds2 l2 nm su r ih =>
        intro w
        obtain ⟨b1, hb1, yes, no⟩ := w
        refine wpAny_handleBy_cons (codeAny_handlers_test ?_) (by intro q; cases q)
        refine look nm ((PySem.W.exm_one (M := model X.prog X.w) J3.kIn LT hb1).here ?_)
        cases b1 with
        | false => exact ih (no rfl)
        | true =>
          refine codeAny_handlers_suite ?_
          refine HandSPX.lands_againZ fl3 fun g4 fl4 up4 => ?_
          have J4 : Inv X pins τ J { s1 with heap := g4 } := J2.landed nb fl4.1 ((up.trans up3).trans up4) eo ag
          obtain ⟨o4, v4, l4, z4, d4⟩ := fl4.there
          have S4 := J4.suite l4 d4 na nL nF
          refine wpAny_mono ((su a o4 cls d (X.pn ++ pins) z4 ⟨_, d4⟩).run [] _ _ J _ S4 (yes rfl a na)) (fun f t sp => ?_) (fun _ _ z => False.elim z)
          cases f with
          | next => obtain ⟨σ6, H6, S6, q6⟩ := sp; exact ⟨σ6, H6, S6.unsuite ok, q6⟩
          | brk => obtain ⟨σ6, H6, S6, q6⟩ := sp; exact ⟨σ6, H6, S6.unsuite ok, q6⟩
          | cont => obtain ⟨σ6, H6, S6, q6⟩ := sp; exact ⟨σ6, H6, S6.unsuite ok, q6⟩
          | ret u => obtain ⟨v6, σ6, H6, S6, r6, q6⟩ := sp; exact ⟨v6, σ6, H6, S6.unsuite ok, r6, q6⟩
      | @named x y i c ts b suite np pq hds2 l2 nm iy ly su r ih =>
        intro w
        obtain ⟨b1, hb1, yes, no⟩ := w
        refine wpAny_handleBy_cons (codeAny_handlers_test ?_) (by intro q; cases q)
        refine look nm ((PySem.W.exm_one (M := model X.prog X.w) J3.kIn LT hb1).here ?_)
        cases b1 with
        | false => exact ih (no rfl)
        | true =>
          refine codeAny_handlers_suite_as ?_
          refine HandSPX.lands_againZ fl3 fun g4 fl4 up4 => ?_
          have J4 : Inv X pins τ J { s1 with heap := g4 } := J2.landed nb fl4.1 ((up.trans up3).trans up4) eo ag
          obtain ⟨o4, v4, l4, z4, d4⟩ := fl4.there
          have S4 := J4.suite l4 d4 na nL nF
          have ly2 : L2.Loc X.env.scope y := .inl ly
          refine store_ok (X := X.suite a ((a, o4) :: (X.pn ++ pins))) (v := .ref a) S4 nd iy ly2 rfl (fun s5 S5 => ?_) (.inr ly)
          refine wpAny_mono ((su a o4 cls d (X.pn ++ pins) z4 ⟨_, d4⟩).run [] s5 _ J _ S5 (yes rfl a na)) (fun f t sp => ?_) (fun _ _ z => False.elim z)
          have cut : ∀ {σ6 : L2.St} {H6 : Hp} {Q : Shared → Prop}, Inv (X.suite a ((a, o4) :: (X.pn ++ pins))) [] σ6 H6 t → (∀ s7, Inv X pins (σ6.set i none) H6 s7 → Q s7) →
              wpAny (model X.prog X.w) X.A (do bindName X.env y .none; unbindBehindTheSuite X.env y pq) (fun _ s7 => Q s7) X.xe t := fun {σ6 H6 Q} S6 hq => gone_ok (S6.unsuite ok) nd iy ly hq
          cases f with
          | next => obtain ⟨σ6, H6, S6, q6⟩ := sp; exact cut S6 fun s7 J7 => ⟨_, _, J7, q6⟩
          | brk => obtain ⟨σ6, H6, S6, q6⟩ := sp; exact cut S6 fun s7 J7 => ⟨_, _, J7, q6⟩
          | cont => obtain ⟨σ6, H6, S6, q6⟩ := sp; exact cut S6 fun s7 J7 => ⟨_, _, J7, q6⟩
          | ret u => obtain ⟨v6, σ6, H6, S6, r6, q6⟩ := sp; exact cut S6 fun s7 J7 => ⟨_, _, _, J7, r6, q6⟩
    exact go hk w
  · cases f with
    | next => obtain ⟨τ, J, J1, q⟩ := sp; exact wpAny_execs_nil ⟨τ, J, J1.ofTry ok, q⟩
    | brk => obtain ⟨τ, J, J1, q⟩ := sp; exact ⟨τ, J, J1.ofTry ok, q⟩
    | cont => obtain ⟨τ, J, J1, q⟩ := sp; exact ⟨τ, J, J1.ofTry ok, q⟩
    | ret u => obtain ⟨v, τ, J, J1, r, q⟩ := sp; exact ⟨v, τ, J, J1.ofTry ok, r, q⟩
end
end Pc
set_option Elab.async false
set_option linter.all false
set_option maxRecDepth 100000
set_option maxHeartbeats 2000000
set_option autoImplicit false
/-! PcR3: expressions and statements of an except suite -/
namespace Pc
open PySem PySem.Spec PyProof.Rows L2
/-- the caught exception, its dict, its class -/
structure HC where
  a : Nat
  d : Option Nat
  c : Str
def hFld (okx : Str → Str → Bool) (h : HC) (f : Str) (i : Nat) : ME := fun env M => match env[i]? with
  | some (some (.cau a d c ns ds)) => if a = h.a ∧ d = h.d ∧ c = h.c ∧ okx h.c f = true then oV (lookD ns ds f) M else .stuck
  | _ => .stuck
def hIsi (tb : Kd → Option Bool) (h : HC) (i : Nat) : ME := fun env M => match env[i]? with
  | some (some (.cau a d c ns ds)) => if a = h.a ∧ d = h.d ∧ c = h.c then (match tb (8, h.c) with
    | some b => .ok (.val (.bl b)) M
    | none => .stuck) else .stuck
  | _ => .stuck
section
variable {X : Cx} {W : WX} {h : HC} {o : Obj} {pn : List (Addr × Obj)} {i : Nat}
theorem pm_hfld {okx : Str → Str → Bool} {y f : Str} {p pos : Pos} (hz : Zc (.ref (He.ga X.K h.c)) h.d o) (hf : ∃ vs, o.data = .fields vs) (hi : X.N[i]? = some y) (hv : Vis X.env.scope y) (p1 : (y == ("__debug__" : Str)) = false) (p2 : (y == ("__classdict__" : Str)) = false)
    (hox : okx h.c f = true → XfC X.K (He.ga X.K h.c) ∧ PySem.W.findIn X.K (.ref (He.ga X.K h.c)) f = some none) : PE (X.suite h.a ((h.a, o) :: pn)) (.Attribute (.Name y p) f pos) (tE X.K W (hFld okx h f i)) := by
  by_cases ho : okx h.c f = true
  · obtain ⟨T, hno⟩ := hox ho
    refine PE.imp' (pe_xf T hno hz hf (pe_var (X := X.suite h.a ((h.a, o) :: pn)) hi hv p1 p2) (base_of rfl f _ _)) fun σ H Q hh => ?_
    obtain ⟨F, io, env, M, ha, er, q⟩ := hh
    unfold hFld at q
    split at q
    · rename_i a d c ns ds he
      split at q
      · rename_i hc
        obtain ⟨rfl, rfl, rfl, _⟩ := hc
        obtain ⟨v, hs, rv⟩ := er.2 _ _ he
        obtain ⟨rfl, fvs, hx, rfl, rl⟩ := (show v = V.ref h.a ∧ ∃ fvs, XcD F h.d fvs ∧ fvs.map (·.1) = ns ∧ RelL X.K F io ds (fvs.map (·.2)) from rv)
        obtain ⟨d', e', q'⟩ := oV_some q
        clear q
        obtain ⟨w, hw, rw'⟩ := (lookD_lookup (f := f) rl).1 d' e'
        refine ⟨V.ref h.a, hs, rfl, rfl, ?_⟩
        cases hd : h.d with
        | none =>
          rw [hd] at hx
          have hx : fvs = [] := hx
          subst hx
          cases hw
        | some dd =>
          rw [hd] at hx
          exact ⟨dd, fvs, w, rfl, ha.sub _ _ hx, hw, post_val q' ha rw'⟩
      · exact q.elim
    · exact q.elim
  · refine ⟨fun pins s σ H Q I ⟨F, io, env, M, ha, er, q⟩ => ?_⟩
    unfold hFld at q
    split at q
    · rename_i a d c ns ds he
      rw [if_neg (fun z => ho z.2.2.2)] at q
      exact q.elim
    · exact q.elim
theorem call_isP {C : Addr} {a : Addr} {od : Option Addr} (T : XkC X.K C) (hz : Zc (.ref C) od o) (hf : ∃ vs, o.data = .fields vs) : CallR (X.suite a ((a, o) :: pn)) (.builtin "isinstance")
    (fun xs H Q => ∃ (c : V) (u : Value) (b : Bool) (fs : List (Str × V)), xs = [.ref a, c] ∧ ClsV c u ∧ PySem.W.kitOne X.K (.ref C) u = some b ∧ XcD H od fs ∧ Q (.bl b) H) := by
  intro pins s σ H xs us Q I r hh
  obtain ⟨c, u, b, fs, rfl, k, e, hx, q⟩ := hh
  obtain ⟨u1, u2, rfl, r1, r2⟩ := vals2 r
  have e2 := k.eq r2
  subst e2
  cases (show u1 = Value.ref a from r1)
  obtain ⟨hget, _⟩ := I.pin (a, o) (List.mem_append_left _ List.mem_cons_self)
  obtain ⟨vs, hd⟩ := hf
  have nc : PySem.W.notCls o = true := by unfold PySem.W.notCls; rw [hd] <;> rfl
  cases od with
  | none =>
    have J : PySem.W.InstAt s.heap a o C none := ⟨hget, hz.1, nc, by rw [hz.2]; trivial⟩
    exact PySem.W.kia_one (PySem.W.kitx_exc (od := none) T.cl T.ga T.gt T.su T.ha T.hn T.ht T.hm) I.kIn J e (fun z => nomatch z) fun tk => ⟨.bl b, H, I.tok tk, rfl, q⟩
  | some dd =>
    have hx : H dd = some (.xd fs) := hx
    have ok : ObjOk X.prog X.w H s.heap dd (.xd fs) := I.hok dd _ hx
    obtain ⟨mA, hns, hr⟩ := ok
    obtain ⟨oD, ho2, hl⟩ := lookIn_ns hns
    have J : PySem.W.InstAt s.heap a o C (some oD) := ⟨hget, hz.1, nc, by rw [hz.2]; exact ho2⟩
    exact PySem.W.kia_one (PySem.W.kitx_exc (od := some oD) T.cl T.ga T.gt T.su T.ha T.hn T.ht T.hm) I.kIn J e (fun z => nomatch z) fun tk => ⟨.bl b, H, I.tok tk, rfl, q⟩
theorem pm_hisi {tb : Kd → Option Bool} {y cn : Str} {p pf pc pos : Pos} (hz : Zc (.ref (He.ga X.K h.c)) h.d o) (hf : ∃ vs, o.data = .fields vs) (hi : X.N[i]? = some y) (hv : Vis X.env.scope y) (p1 : (y == ("__debug__" : Str)) = false) (p2 : (y == ("__classdict__" : Str)) = false)
    (hg : Gl X "isinstance") (hm : X.mg "isinstance" = none) (hc : ∃ u, ClsN X.K X.mg cn u) (hgc : Gl X cn) (hdc : (cn == ("__debug__" : Str)) = false) (ht : ∀ k b, tb k = some b → KdOk X.K k ∧ ∃ u, ClsN X.K X.mg cn u ∧ PySem.W.kitOne X.K (tyV X.K k) u = some b) :
    PE (X.suite h.a ((h.a, o) :: pn)) (.Call (.Name "isinstance" pf) [.Name y p, .Name cn pc] [] pos) (tE X.K W (hIsi tb h i)) := by
  obtain ⟨u, hu⟩ := hc
  have one : ∀ u', ClsN X.K X.mg cn u' → u' = u := fun u' h' => by
    rcases hu with ⟨rfl, h1⟩ | ⟨T, rfl, h1, h2, _⟩ <;> rcases h' with ⟨rfl, g1⟩ | ⟨T', rfl, g1, g2, _⟩
    · rfl
    · rw [h1] at g1; cases g1
    · rw [h1] at g1; cases g1
    · rw [h2] at g2; exact (Option.some.inj g2).symm
  have hv2 : ∃ v, ClsV v u ∧ PE (X.suite h.a ((h.a, o) :: pn)) (.Name cn pc) (tC v) := by
    rcases hu with ⟨rfl, h1⟩ | ⟨T, rfl, h1, h2, h3⟩
    · exact ⟨.ref _, .own _, pe_glob (X := X.suite h.a ((h.a, o) :: pn)) hgc h1 rfl hdc⟩
    · exact ⟨.ty T, .ty T, pe_bltn (X := X.suite h.a ((h.a, o) :: pn)) hgc h1 h2 rfl h3 hdc⟩
  obtain ⟨v, hv3, hv4⟩ := hv2
  cases hb : tb (8, h.c) with
  | none =>
    refine ⟨fun pins s σ H Q I ⟨F, io, env, M, ha, er, q⟩ => ?_⟩
    unfold hIsi at q
    split at q
    · rw [hb] at q
      split at q <;> exact q.elim
    · exact q.elim
  | some b =>
    obtain ⟨ok, u', hu', hk⟩ := ht _ _ hb
    obtain rfl := one u' hu'
    have T : XkC X.K (He.ga X.K h.c) := ok.2 rfl
    have ha : PA (X.suite h.a ((h.a, o) :: pn)) [.Name y p, .Name cn pc] (tCons (tVar i) (tCons (tC v) tNil)) :=
      pa_cons (pe_var (X := X.suite h.a ((h.a, o) :: pn)) hi hv p1 p2) (pa_cons hv4 pa_nil (by rfl)) (by rfl)
    refine PE.imp' (pe_callB (X := X.suite h.a ((h.a, o) :: pn)) (call_isP T hz hf) hg hm (by rfl) ha (by decide) (by decide) (by rfl) (by rfl)) fun σ H Q hh => ?_
    obtain ⟨F, io, env, M, hA, er, q⟩ := hh
    unfold hIsi at q
    rw [hb] at q
    split at q
    · rename_i a d c ns ds he
      split at q
      · rename_i hc
        obtain ⟨rfl, rfl, rfl⟩ := hc
        obtain ⟨w, hs, rv⟩ := er.2 _ _ he
        obtain ⟨rfl, fvs, hx, rfl, rl⟩ := (show w = V.ref h.a ∧ ∃ fvs, XcD F h.d fvs ∧ fvs.map (·.1) = ns ∧ RelL X.K F io ds (fvs.map (·.2)) from rv)
        exact ⟨V.ref h.a, hs, v, _, b, fvs, rfl, hv3, hk, hx.mono hA.sub, post_val q hA rfl⟩
      · exact q.elim
    · exact q.elim
end
/-! ### the suite's text -/
def noOwn : OwnM := fun _ => none
mutual
def hE : Nat → TC → HC → Expr → ME
  | 0, _, _, _ => mStuck
  | n + 1, C, h, e => match e with
    | .Constant .none _ _ => mVal .non
    | .Constant (.bool b) _ _ => mVal (.bl b)
    | .Constant (.int i) _ _ => mVal (.int i)
    | .Constant (.str s) _ _ => mVal (.str s)
    | .Name x _ => trName C x
    | .BinOp a op b _ => mBin op (hE n C h a) (hE n C h b)
    | .BoolOp _ [x] _ => hE n C h x
    | .BoolOp .And (x :: y :: r) p => mAnd (hE n C h x) (hE n C h (.BoolOp .And (y :: r) p))
    | .BoolOp .Or (x :: y :: r) p => mOr (hE n C h x) (hE n C h (.BoolOp .Or (y :: r) p))
    | .UnaryOp .Not x _ => mNot (hE n C h x)
    | .IfExp c a b _ => mIf (hT n C h c) (hE n C h a) (hE n C h b)
    | .Tuple es _ _ => mTup (hA n C h es)
    | .Attribute (.Name y _) f _ => if visB C.sc y && plainX y then (match ixOf y C.N with
      | some i => hFld (oxB C.G) h f i
      | none => mStuck) else mStuck
    | .Call (.Name x _) [.Name y _, .Name cn _] [] _ => if x = ("isinstance" : Str) then (if visB C.sc y && plainX y && gloB C.sc x && C.G.frA.contains x && gloB C.sc cn && plainX cn then (match ixOf y C.N, C.G.isA.lookup cn with
      | some i, some tb => hIsi (fun k => tb.lookup k) h i
      | _, _ => mStuck) else mStuck) else mStuck
    | .Call (.Attribute o name ap) es [] p => if notSuper o && es.all noStar && decide (es.length < 30) && (ap.endLine == p.line) then mMeth (methAlts name) noOwn name (hE n C h o) (hA n C h es) else mStuck
    | _ => mStuck
def hT : Nat → TC → HC → Expr → MT
  | 0, _, _, _ => fun _ _ => .stuck
  | n + 1, C, h, e => match e with
    | .BoolOp op vs p => hW n C h (.BoolOp op vs p)
    | .UnaryOp .Not x _ => mNotT (hT n C h x)
    | .Compare .. => fun _ _ => .stuck
    | .IfExp .. => fun _ _ => .stuck
    | e => mTru (hE n C h e)
def hW : Nat → TC → HC → Expr → MT
  | 0, _, _, _ => fun _ _ => .stuck
  | n + 1, C, h, e => match e with
    | .BoolOp _ [x] _ => hT n C h x
    | .BoolOp .And (x :: y :: r) p => mAndT (hT n C h x) (hW n C h (.BoolOp .And (y :: r) p))
    | .BoolOp .Or (x :: y :: r) p => mOrT (hT n C h x) (hW n C h (.BoolOp .Or (y :: r) p))
    | _ => fun _ _ => .stuck
def hA : Nat → TC → HC → List Expr → MDs
  | 0, _, _, es => match es with
    | [] => mNil
    | _ => fun _ _ => .stuck
  | n + 1, C, h, es => match es with
    | [] => mNil
    | e :: r => if noStar e then mConsA false (hE n C h e) (hA n C h r) else fun _ _ => .stuck
end
structure HSo (n : Nat) (C : TC) (h : HC) (X : Cx) (W : WX) : Prop where
  e : ∀ e, PE X e (tE X.K W (hE n C h e))
  t : ∀ e, PT X e (tT X.K W (hT n C h e))
  w : ∀ e, PW X e (tT X.K W (hW n C h e))
  a : ∀ es, PA X es (tDs X.K W (hA n C h es))
theorem hA_nil (n : Nat) (C : TC) (h : HC) : hA n C h [] = mNil := by cases n <;> rfl
section
variable {C : TC} {X : Cx} {W W1 : WX} {lev : Nat} {h : HC} {o : Obj} {pn : List (Addr × Obj)}
theorem hname (c : COk C X W lev) {x : Str} {pos : Pos} : PE (X.suite h.a ((h.a, o) :: pn)) (.Name x pos) (tE X.K W1 (trName C x)) := by
  unfold trName
  split
  · rename_i hp
    obtain ⟨p1, p2⟩ := plainX_ok hp
    split
    · rename_i hv
      split
      · rename_i i hi
        exact pm_var (X := X.suite h.a ((h.a, o) :: pn)) (by show X.N[i]? = _; rw [c.N]; exact ixOf_ok hi) (c.vis hv) p1 p2
      · exact pm_stuck
    · split
      · rename_i hg
        split
        · rename_i d hd
          obtain ⟨u, v, h1, h2, h3⟩ := c.g.con x d hd
          exact pm_const (pe_glob (X := X.suite h.a ((h.a, o) :: pn)) (c.gl hg) h1 h2 p1) h3
        · exact pm_stuck
      · exact pm_stuck
  · exact pm_stuck
theorem ho : ∀ (n : Nat), COk C X W lev → Zc (.ref (He.ga X.K h.c)) h.d o → (∃ vs, o.data = .fields vs) → Takes (X.suite h.a ((h.a, o) :: pn)) W1 → HSo n C h (X.suite h.a ((h.a, o) :: pn)) W1
  | 0, c, hz, hf, tk => ⟨fun _ => pm_stuck, fun _ => pt_stuck, fun _ => pw_stuck, fun es => by
      cases es with
      | nil => exact am_nil
      | cons a es => exact pa_stuck⟩
  | n + 1, c, hz, hf, tk => by
    have q := ho n c hz hf tk
    refine ⟨fun e => ?_, fun e => ?_, fun e => ?_, fun es => ?_⟩
    · unfold hE
      split
      · exact pm_const pe_non fun _ _ => rfl
      · exact pm_const pe_bl fun _ _ => rfl
      · exact pm_const pe_int fun _ _ => rfl
      · exact pm_const pe_str fun _ _ => rfl
      · exact hname c
      · exact pm_bin (q.e _) (q.e _)
      · exact pm_one (q.e _)
      · exact pm_and (q.e _) (q.e _)
      · exact pm_or (q.e _) (q.e _)
      · exact pm_not (q.e _)
      · exact pm_if (q.t _) (q.e _) (q.e _)
      · exact pm_tup (q.a _)
      · split
        · rename_i hh
          rw [Bool.and_eq_true] at hh
          split
          · rename_i i hi
            exact pm_hfld hz hf (by rw [c.N]; exact ixOf_ok hi) (c.vis hh.1) (plainX_ok hh.2).1 (plainX_ok hh.2).2 fun z => c.g.xa _ _ z
          · exact pm_stuck
        · exact pm_stuck
      · split
        · rename_i hx
          subst hx
          split
          · rename_i hh
            simp only [Bool.and_eq_true] at hh
            obtain ⟨⟨⟨⟨⟨h1, h2⟩, h3⟩, h4⟩, h5⟩, h6⟩ := hh
            split
            · rename_i i tb hi ht
              obtain ⟨i1, i2⟩ := c.g.isi _ _ ht
              exact pm_hisi hz hf (by rw [c.N]; exact ixOf_ok hi) (c.vis h1) (plainX_ok h2).1 (plainX_ok h2).2 (c.gl h3) (c.g.fr _ h4) i1 (c.gl h5) (plainX_ok h6).1 i2
            · exact pm_stuck
          · exact pm_stuck
        · exact pm_stuck
      · split
        · rename_i hh
          simp only [Bool.and_eq_true, decide_eq_true_eq] at hh
          obtain ⟨⟨⟨h1, h2⟩, h3⟩, h4⟩ := hh
          exact pm_meth (lev := 0) (fun _ _ z => by cases z) tk (q.e _) (q.a _) h1 h2 h3 h4 (fun e => by rw [e]; exact hA_nil n C h) methAlts_ok ⟨fun cl k φ hk => by cases hk⟩
        · exact pm_stuck
      · exact pm_stuck
    · unfold hT
      split
      · exact (q.w _).pt
      · exact tm_not (q.t _)
      · exact pt_stuck
      · exact pt_stuck
      · rename_i h1 h2 h3 h4
        refine tm_tru (q.e _) fun wh => ?_
        cases e <;> first
          | rfl
          | exact absurd rfl (h1 _ _ _)
          | exact absurd rfl (h3 _ _ _ _)
          | exact absurd rfl (h4 _ _ _ _)
          | (rename_i op _ _; cases op <;> first | rfl | exact absurd rfl (h2 _ _))
    · unfold hW
      split
      · rename_i op x p
        cases op with
        | And => exact pw_and1 (q.t _)
        | Or => exact pw_or1 (q.t _)
      · exact wm_and (q.t _) (q.w _)
      · exact wm_or (q.t _) (q.w _)
      · exact pw_stuck
    · unfold hA
      split
      · exact am_nil
      · split
        · rename_i hs
          exact am_consA (q.e _) (q.a _) (star_cons hs _ _)
        · exact pa_stuck
end
end Pc
set_option Elab.async false
set_option linter.all false
set_option maxRecDepth 100000
set_option maxHeartbeats 2000000
set_option autoImplicit false
/-! PcR4: try .. except: the reading -/
namespace Pc
open PySem PySem.Spec PyProof.Rows L2
def hSt (n : Nat) (C : TC) (h : HC) : Stmt → MS
  | .Pass _ => mNext
  | .Break _ => mBreak
  | .Continue _ => mCont
  | .Return (some e) _ => mRet (hE n C h e)
  | .Return none _ => mRetN
  | .Expr e _ => if noComp e then mDrop (hE n C h e) else mStS
  | .Assign [.Name x p] e _ => (match ixOf x C.N with
    | some i => if locB C x && noComp e then mSet (C.mu.contains x) i (hE n C h e) else mStS
    | none => mStS)
  | _ => mStS
def hSs (n : Nat) (C : TC) (h : HC) : List Stmt → MS
  | [] => mNext
  | s :: r => mSeq (hSt n C h s) (hSs n C h r)
section
variable {C : TC} {X : Cx} {W W1 : WX} {lev n : Nat} {h : HC} {o : Obj} {pn : List (Addr × Obj)}
theorem hst (c : COk C X W lev) (q : HSo n C h (X.suite h.a ((h.a, o) :: pn)) W1) (s : Stmt) : PS (X.suite h.a ((h.a, o) :: pn)) s (tS X.K W1 (hSt n C h s)) := by
  unfold hSt
  split
  · exact sm_pass
  · exact sm_break
  · exact sm_cont
  · exact sm_ret (q.e _)
  · exact sm_retN
  · split
    · rename_i hh; exact sm_expr (q.e _) (sw_no hh _ _ _)
    · exact sm_stuck
  · split
    · rename_i i hi
      split
      · rename_i hh
        rw [Bool.and_eq_true] at hh
        obtain ⟨l1, l2⟩ := c.loc hh.1
        exact sm_set (X := X.suite h.a ((h.a, o) :: pn)) (by show X.N.Nodup; rw [c.N]; exact c.nd) (by show X.N[_]? = _; rw [c.N]; exact ixOf_ok hi) l1 l2 (q.e _) (sw_no hh.2 _ _ _)
      · exact sm_stuck
    · exact sm_stuck
  · exact sm_stuck
theorem hss (c : COk C X W lev) (q : HSo n C h (X.suite h.a ((h.a, o) :: pn)) W1) : ∀ s : List Stmt, PSs (X.suite h.a ((h.a, o) :: pn)) s (tS X.K W1 (hSs n C h s))
  | [] => sms_nil
  | s :: r => sms_cons (hst c q s) (hss c q r)
end
/-! ### clauses -/
structure Hd where
  cl : Str
  slot : Option Nat
  su : HC → MS
noncomputable def coll (f : Nat → Option Nat → RS) : RS := by
  classical
  exact if ∀ a d, f a d = f 0 none then f 0 none else .stuck
theorem coll_const (r : RS) : (coll fun _ _ => r) = r := by
  unfold coll
  exact if_pos fun _ _ => rfl
theorem coll_at {K : PySem.W.Frag} {W : WX} {F H : Hp} {io : List Addr} {D : Ends} {f : Nat → Option Nat → RS} (p : PostS K W F io H D (coll f)) (a : Nat) (d : Option Nat) : PostS K W F io H D (f a d) := by
  unfold coll at p
  split at p
  · rename_i h
    rw [h a d]
    exact p
  · exact p.elim
def wipeR (i : Nat) : RS → RS
  | .nx env M => .nx (env.set i none) M
  | .bk env M => .bk (env.set i none) M
  | .ct env M => .ct (env.set i none) M
  | r => r
def noR : RS → RS
  | .exc _ _ _ _ _ => .stuck
  | r => r
noncomputable def hdRun (em : Str → Str → Option Bool) (c : Str) (ns : List Str) (ds : List D) (env : Sl) (M : Mem) : List Hd → RS
  | [] => .exc c ns ds env M
  | h :: r => match em c h.cl with
    | some true => coll fun a d => match h.slot with
      | none => noR (h.su ⟨a, d, c⟩ env M)
      | some i => wipeR i (noR (h.su ⟨a, d, c⟩ (env.set i (some (.cau a d c ns ds))) M))
    | some false => hdRun em c ns ds env M r
    | none => .stuck
noncomputable def mTry (em : Str → Str → Option Bool) (body : MS) (hs : List Hd) : MS := fun env M => match body env M with
  | .exc c ns ds env1 M1 => hdRun em c ns ds env1 M1 hs
  | r => r
section
variable {K : PySem.W.Frag} {F H : Hp} {io : List Addr} {σ : L2.St} {env : Sl} {D : Ends} {i : Nat}
theorem ER.wipe1 (h : ER K F io σ env) : ER K F io (σ.set i none) (env.set i none) := by
  refine ⟨by rw [List.length_set, List.length_set, h.1], fun j e q => ?_⟩
  by_cases hj : i = j
  · subst hj
    by_cases hl : i < env.length
    · rw [List.getElem?_set_self hl] at q
      cases q
    · rw [List.getElem?_eq_none (by rw [List.length_set]; omega)] at q
      cases q
  · rw [List.getElem?_set_ne hj] at q
    rw [List.getElem?_set_ne hj]
    exact h.2 j e q
theorem post_noR {W : WX} {r : RS} (p : PostS K W F io H D (noR r)) : PostS K W0 F io H D r := by
  cases r with
  | nx env M => exact p
  | bk env M => exact p
  | ct env M => exact p
  | rt rv M => exact p
  | exc c ns ds env M => exact False.elim p
  | stuck => exact p
theorem post_wipe {W : WX} {r : RS} (p : PostS K W F io H D (wipeR i (noR r))) : PostS K W0 F io H (wipeD D i) r := by
  cases r with
  | nx env M => exact fun F' io' H' σ' a b c => p F' io' H' _ a b c.wipe1
  | bk env M => exact fun F' io' H' σ' a b c => p F' io' H' _ a b c.wipe1
  | ct env M => exact fun F' io' H' σ' a b c => p F' io' H' _ a b c.wipe1
  | rt rv M => exact p
  | exc c ns ds env M => exact False.elim p
  | stuck => exact p
/-- an exception's dict is none of the numbered objects -/
theorem HA.noxd {M : Mem} {dd : Addr} {fs : List (Str × V)} (h : HA K F io H M) (e : H dd = some (.xd fs)) : dd ∉ io := fun hm => by
  obtain ⟨j, hj, ej⟩ := List.mem_iff_getElem.mp hm
  have hl : j < M.length := by rw [← h.len]; exact hj
  obtain ⟨a, e1, _, e3⟩ := h.at_ j M[j] (List.getElem?_eq_getElem hl)
  have ea : a = dd := by
    rw [List.getElem?_eq_getElem hj, ej] at e1
    exact (Option.some.inj e1).symm
  subst ea
  generalize M[j] = o at e3
  cases o with
  | lst xs => obtain ⟨vs, q, _⟩ := e3; rw [e] at q; cases q
  | dk ks ds => obtain ⟨vs, q, _⟩ := e3; rw [e] at q; cases q
  | dt ks ds => obtain ⟨vs, q, _⟩ := e3; rw [e] at q; cases q
  | ins c ns ds => obtain ⟨dx, vs, q, _⟩ := e3; rw [e] at q; cases q
/-- the caught exception's fields, frozen -/
theorem caught {F' H' : Hp} {io' : List Addr} {M' : Mem} {ns : List Str} {ds : List Pc.D} {dd : Option Addr} (ha : HA K F' io' H' M') (x : Ex F io H F' io' H') (q : ExcAt K F' io' H H' ns ds dd) :
    ∃ F2 fvs, HA K F2 io' H' M' ∧ Ex F io H F2 io' H' ∧ Same F' F2 ∧ XcD F2 dd fvs ∧ fvs.map (·.1) = ns ∧ RelL K F2 io' ds (fvs.map (·.2)) := by
  cases dd with
  | none =>
    obtain ⟨rfl, rfl⟩ := q
    exact ⟨F', [], ha, x, Same.refl _, rfl, rfl, rfl⟩
  | some dd =>
    obtain ⟨fvs, h1, h2, h3, h4⟩ := q
    obtain ⟨a1, s1⟩ := ha.freeze h1 (ha.noxd h1)
    refine ⟨upd F' dd (.xd fvs), fvs, a1, ⟨x.sub.trans s1, x.ids, x.frame, fun b o e => ?_, x.newI, x.there⟩, s1, upd_same, h2, RelL.mono s1 (fun _ _ z => z) _ _ h3⟩
    by_cases hb : b = dd
    · subst hb; exact .inr h4
    · rw [upd_ne hb] at e; exact x.newF b o e
end
/-- the clauses of the text, as they are read -/
inductive HdsT (X : Cx) : List ExceptHandler → List Hd → Prop
  | nil : HdsT X [] []
  | anon {x : Str} {b : Stmt} {suite : List Stmt} {np pq : Pos} {su : HC → MS} {hds : List ExceptHandler} {l : List Hd} (nm : Names X x (.ref (He.ga X.K x)))
      (sk : ∀ (h : HC) (o : Obj) (pn : List (Addr × Obj)), Zc (.ref (He.ga X.K h.c)) h.d o → (∃ vs, o.data = .fields vs) → PSs (X.suite h.a ((h.a, o) :: pn)) (b :: suite) (tS X.K W0 (su h))) (r : HdsT X hds l) :
      HdsT X (.ExceptHandler (some (.Name x np)) none (b :: suite) pq :: hds) (⟨x, none, su⟩ :: l)
  | named {x y : Str} {i : Nat} {b : Stmt} {suite : List Stmt} {np pq : Pos} {su : HC → MS} {hds : List ExceptHandler} {l : List Hd} (nm : Names X x (.ref (He.ga X.K x))) (iy : X.N[i]? = some y) (ly : X.env.kindOf y = some .local)
      (sk : ∀ (h : HC) (o : Obj) (pn : List (Addr × Obj)), Zc (.ref (He.ga X.K h.c)) h.d o → (∃ vs, o.data = .fields vs) → PSs (X.suite h.a ((h.a, o) :: pn)) (b :: suite) (tS X.K W0 (su h))) (r : HdsT X hds l) :
      HdsT X (.ExceptHandler (some (.Name x np)) (some y) (b :: suite) pq :: hds) (⟨x, some i, su⟩ :: l)
def Hd.hp (K : PySem.W.Frag) (h : Hd) : HdP := ⟨.ref (He.ga K h.cl), h.slot, fun a cls d => fun D σ H => ∃ c, cls = .ref (He.ga K c) ∧ tS K W0 (h.su ⟨a, d, c⟩) D σ H⟩
theorem HdsT.n {X : Cx} : ∀ {hds : List ExceptHandler} {l : List Hd}, HdsT X hds l → HdsN X hds (l.map (Hd.hp X.K)) := by
  have one : ∀ {b : Stmt} {suite : List Stmt} {su : HC → MS}, (∀ (h : HC) (o : Obj) (pn : List (Addr × Obj)), Zc (.ref (He.ga X.K h.c)) h.d o → (∃ vs, o.data = .fields vs) → PSs (X.suite h.a ((h.a, o) :: pn)) (b :: suite) (tS X.K W0 (su h))) →
      SuOk X (b :: suite) (fun a cls d => fun D σ H => ∃ c, cls = .ref (He.ga X.K c) ∧ tS X.K W0 (su ⟨a, d, c⟩) D σ H) := fun {b suite su} sk a o cls d pn hz hf =>
    ⟨fun pins s σ H D I ⟨c, e, ht⟩ => by
      subst e
      exact (sk ⟨a, d, c⟩ o pn hz hf).run pins s σ H D I ht⟩
  intro hds l h
  induction h with
  | nil => exact .nil
  | anon nm sk r ih => exact .anon nm (one sk) ih
  | named nm iy ly sk r ih => exact .named nm iy ly (one sk) ih
section
variable {X : Cx} {W : WX} {body : List Stmt} {h0 : ExceptHandler} {hds : List ExceptHandler} {l : List Hd} {pos : Pos} {mb : MS} {em : Str → Str → Option Bool}
theorem run_hds (hem : ∀ c x b, em c x = some b → PySem.W.exmOne X.K (.ref (He.ga X.K c)) (.ref (He.ga X.K x)) = some b) {F H F' H' : Hp} {io io' : List Addr} {M' : Mem} {D : Ends} {c : Str} {ns : List Str} {ds : List Pc.D} {env : Sl} {σ : L2.St} {dd : Option Addr}
    (ha : HA X.K F' io' H' M') (x : Ex F io H F' io' H') (er : ER X.K F' io' σ env) (q : ExcAt X.K F' io' H H' ns ds dd) :
    ∀ (l : List Hd), PostS X.K W F io H D (hdRun em c ns ds env M' l) → wN X.K W D (l.map (Hd.hp X.K)) (.ref (He.ga X.K c)) dd σ H'
  | [], p => p F' io' H' dd σ ha x er q
  | h :: r, p => by
    unfold hdRun at p
    split at p
    · rename_i hm
      refine ⟨true, hem _ _ _ hm, fun _ a na => ?_, fun z => nomatch z⟩
      have p1 := coll_at p a dd
      obtain ⟨F2, fvs, a2, x2, s2, k1, k2, k3⟩ := caught ha x q
      have p2 := PostS.from_ x2 p1
      unfold HdP.ask Hd.hp
      dsimp only
      cases hs : h.slot with
      | none =>
        rw [hs] at p2
        exact ⟨c, rfl, F2, io', env, M', a2, er.mono s2 (fun _ _ z => z), post_noR p2⟩
      | some i =>
        rw [hs] at p2
        exact ⟨c, rfl, F2, io', env.set i (some (.cau a dd c ns ds)), M', a2, (er.mono s2 (fun _ _ z => z)).put ⟨rfl, fvs, k1, k2, k3⟩, post_wipe p2⟩
    · rename_i hm
      exact ⟨false, hem _ _ _ hm, (fun z => nomatch z), fun _ => run_hds hem ha x er q r p⟩
    · exact p.elim
theorem sm_try (es : X.stack = X.env :: X.outer) (ef : X.env.frame = some X.env.locals) (nd : X.N.Nodup) (tk : Takes X W) (hem : ∀ c x b, em c x = some b → PySem.W.exmOne X.K (.ref (He.ga X.K c)) (.ref (He.ga X.K x)) = some b)
    (bd : ∀ (W : WX) (pn : List (Addr × Obj)) (xe : Value → Shared → Prop), Takes (X.tr pn xe) W → PassesOwn (model X.prog X.w) X.A X.env xe → PSs (X.tr pn xe) body (tS X.K W mb))
    (hk : HdsT X (h0 :: hds) l) : PS X (.Try body (h0 :: hds) [] [] pos) (tS X.K W (mTry em mb l)) := by
  refine PS.imp' (ps_tryN es ef nd tk (tb := fun W => tS X.K W mb) bd hk.n) fun D σ H h => ?_
  obtain ⟨F, io, env, M, ha, er, p⟩ := h
  refine ⟨F, io, env, M, ha, er, ?_⟩
  unfold mTry at p
  cases r : mb env M with
  | nx e1 M1 => rw [r] at p; exact p
  | bk e1 M1 => rw [r] at p; exact p
  | ct e1 M1 => rw [r] at p; exact p
  | rt rv M1 => rw [r] at p; exact p
  | stuck => rw [r] at p; exact p
  | exc c ns ds e1 M1 =>
    rw [r] at p
    exact fun F' io' H' dd σ' a b c' q => run_hds hem a b c' q l p
end
end Pc
set_option Elab.async false
set_option linter.all false
set_option maxRecDepth 100000
set_option maxHeartbeats 4000000
set_option autoImplicit false
/-! PcS3: statements -/
namespace Pc
open PySem PySem.Spec PyProof.Rows L2

def flagsOf (mu : List Str) (ts : List Expr) : List Bool := ts.map fun t => match t with
  | .Name x _ => mu.contains x
  | _ => false
def trM (n : Nat) (C : TC) : List Bool → List Expr → MDs
  | b :: bs, e :: es => mConsA b (trE n C e) (trM n C bs es)
  | _, [] => mNil
  | [], _ :: _ => fun _ _ => .stuck
def trLc (n : Nat) (C : TC) (elt tg iter : Expr) (ifs : List Expr) (scope : Scope) : Option ME := match trG (blkTC C scope) n tg with
  | some g => if blkC C.N C.sc scope (ownOf C.N scope) && notSet iter then some (mLc (trI n C tg iter) g (trIf n (blkTC C scope) ifs) (mA false (trE n (blkTC C scope) elt)) ((ownOf C.N scope).map (·.2))) else none
  | none => none
def isLoc (sc : Scope) (x : Str) : Bool := match sc.names.lookup x with
  | some .local => true
  | _ => false
def trHd (n : Nat) (C : TC) : ExceptHandler → Option Hd
  | .ExceptHandler (some (.Name x _)) none (b :: su) _ => if gloB C.sc x && plainX x && (C.G.exA.lookup x).isSome then some ⟨x, none, fun h => hSs n C h (b :: su)⟩ else none
  | .ExceptHandler (some (.Name x _)) (some y) (b :: su) _ => if gloB C.sc x && plainX x && (C.G.exA.lookup x).isSome && isLoc C.sc y then (ixOf y C.N).map fun i => ⟨x, some i, fun h => hSs n C h (b :: su)⟩ else none
  | _ => none
def trHds (n : Nat) (C : TC) : List ExceptHandler → Option (List Hd)
  | [] => some []
  | h :: r => match trHd n C h, trHds n C r with
    | some x, some l => some (x :: l)
    | _, _ => none
mutual
noncomputable def trSt : Nat → TC → Stmt → MS
  | 0, _, _ => mStS
  | n + 1, C, s => match s with
    | .Pass _ => mNext
    | .Break _ => mBreak
    | .Continue _ => mCont
    | .Expr (.Constant (.str _) _ _) _ => mNext
    | .Expr e _ => if noComp e then mDrop (trE n C e) else mStS
    | .Return (some e) _ => mRet (trE n C e)
    | .Return none _ => mRetN
    | .If c a b _ => mIfS (trT n C c) (trS n C a) (trS n C b)
    | .For tg iter body [] _ => (match trG C n tg with
      | some g => if notSet iter then mFor (trI n C tg iter) g (trS n C body) else mStS
      | none => mStS)
    | .While c body [] _ => whileL (trT n C c) (trS n C body) C.G.wf
    | .Assign [.Name x p] (.ListComp elt [⟨tg, iter, ifs, 0⟩] scope pv) _ => (match ixOf x C.N, trLc n C elt tg iter ifs scope with
      | some i, some m => if locB C x then mSet (C.mu.contains x) i m else mStS
      | _, _ => mStS)
    | .Assign [.Name x p] e _ => (match ixOf x C.N with
      | some i => if locB C x && noComp e then mSet (C.mu.contains x) i (trE n C e) else mStS
      | none => mStS)
    | .Assign [.Tuple ts k p] (.Tuple vs k2 p2) _ => (match swO C.sc ts vs with
      | some (some _) => (match ts, vs with
        | [.Name x _, .Name y _], [a, b] => (match ixOf x C.N, ixOf y C.N with
          | some i, some j => if swO C.sc ts vs = some (some [x, y]) ∧ i ≠ j ∧ isLoc C.sc x = true ∧ isLoc C.sc y = true ∧ noStar a = true ∧ noStar b = true then mPar [i, j] (trM n C (flagsOf C.mu ts) [a, b]) else mStS
          | _, _ => mStS)
        | [.Name x _, .Name y _, .Name z _], [a, b, c] => (match ixOf x C.N, ixOf y C.N, ixOf z C.N with
          | some i, some j, some l => if swO C.sc ts vs = some (some [x, y, z]) ∧ (i ≠ j ∧ i ≠ l ∧ j ≠ l) ∧ (isLoc C.sc x = true ∧ isLoc C.sc y = true ∧ isLoc C.sc z = true) ∧ noStar a = true ∧ noStar b = true ∧ noStar c = true then mPar [i, j, l] (trM n C (flagsOf C.mu ts) [a, b, c]) else mStS
          | _, _, _ => mStS)
        | _, _ => mStS)
      | some none => (match trG C n (.Tuple ts k p) with
        | some g => if vs.all noStar then mAsg g (mTup (trM n C (flagsOf C.mu ts) vs)) else mAsg g (trE n C (.Tuple vs k2 p2))
        | none => mStS)
      | none => mStS)
    | .Assign [.Tuple ts k p] e _ => (match trG C n (.Tuple ts k p) with
      | some g => mAsg g (trE n C e)
      | none => mStS)
    | .Assign [.Subscript o i _] e _ => mSub false (trE n C e) (trE n C o) (trE n C i)
    | .Assign [.Attribute o f _] e _ => mFld (C.G.muA.contains f) (okB C.G) f (trE n C e) (trE n C o)
    | .Raise (some (.Call (.Name x _) es [] _)) none _ => if plainX x && gloB C.sc x && es.all noStar then (match C.G.exA.lookup x with
      | some (fm, fl) => mRaise x fm fl (trA n C es)
      | none => mStS) else mStS
    | .Try body (h :: hs) [] [] _ => (match trHds n C (h :: hs) with
      | some l => mTry (fun c x => C.G.emA.lookup (c, x)) (trS n C body) l
      | none => mStS)
    | _ => mStS
noncomputable def trS : Nat → TC → List Stmt → MS
  | 0, _, _ => mStS
  | n + 1, C, ss => match ss with
    | [] => mNext
    | s :: r => mSeq (trSt n C s) (trS n C r)
end
section
variable {n lev : Nat} {C : TC} {X : Cx} {W : WX}
theorem so_M (c : COk C X W lev) : ∀ (bs : List Bool) (es : List Expr), es.all noStar = true → PA X es (tDs X.K W (trM n C bs es))
  | b :: bs, e :: es, h => by
    rw [List.all_cons, Bool.and_eq_true] at h
    exact am_consA ((so n C X W lev c).e e) (so_M c bs es h.2) (star_cons h.1 _ _)
  | [], [], _ => am_nil
  | _ :: _, [], _ => am_nil
  | [], _ :: _, _ => pa_stuck
theorem isLoc_ok (c : COk C X W lev) {x : Str} (h : isLoc C.sc x = true) : X.env.scope.names.lookup x = some .local := by
  unfold isLoc at h
  rw [c.sc]
  split at h
  · assumption
  · cases h
theorem sole_tg {ts : List Expr} {k : Nat} {p : Pos} {e : Expr} {l : Nat} {env : PySem.Env} : swapsWithSole [.Tuple ts k p] e l env = pure false := by
  show swapsWith e (some (.Tuple ts k p)) l env = _
  exact sw_tg rfl l env
theorem sm_lcAny (c : COk C X W lev) {x : Str} {p pv pos : Pos} {i : Nat} {elt tg iter : Expr} {ifs : List Expr} {scope : Scope} {m : ME} {mu : Bool} (hi : ixOf x C.N = some i) (hl : locB C x = true) (hm : trLc n C elt tg iter ifs scope = some m) :
    PS X (.Assign [.Name x p] (.ListComp elt [⟨tg, iter, ifs, 0⟩] scope pv) pos) (tS X.K W (mSet mu i m)) := by
  have q := so n C X W lev c
  have hN : X.N.Nodup := by rw [c.N]; exact c.nd
  have hi' : X.N[i]? = some x := by rw [c.N]; exact ixOf_ok hi
  obtain ⟨l1, l2⟩ := c.loc hl
  unfold trLc at hm
  split at hm
  · rename_i g hg
    split at hm
    · rename_i h
      cases hm
      rw [Bool.and_eq_true] at h
      obtain ⟨ok, h1, h2, h3⟩ := so_lc (so n) c hg h.1
      cases hsw : swB X.env.scope scope x p pv with
      | true =>
        have hyl : X.env.scope.names.lookup x = some .local := by
          unfold swB at hsw
          rw [Bool.and_eq_true, Bool.and_eq_true] at hsw
          exact beq_iff_eq.mp hsw.1.1
        exact sm_setLc c.calm hN hi' hyl (by rw [sw_lc c.kind, hsw]) (q.i _ _) ok h1 h2 h3 (fold_ok h.2 _)
      | false =>
        exact sm_set hN hi' l1 l2 (pm_lc c.calm hN (q.i _ _) ok h1 h2 h3 (fold_ok h.2 _)) (by rw [sw_lc c.kind, hsw])
    · cases hm
  · cases hm
structure Ss (n : Nat) (C : TC) (X : Cx) (W : WX) : Prop where
  st : ∀ s, PS X s (tS X.K W (trSt n C s))
  ss : ∀ s, PSs X s (tS X.K W (trS n C s))
/-- what a body's frame is like -/
structure HpX (X : Cx) : Prop where
  ps : PassesOwn (model X.prog X.w) X.A X.env X.xe
  st : X.stack = X.env :: X.outer
  fr : X.env.frame = some X.env.locals
theorem COk.tr {pn : List (Addr × Obj)} {xe : Value → Shared → Prop} {W' : WX} (c : COk C X W lev) (tk : Takes (X.tr pn xe) W') : COk C (X.tr pn xe) W' lev where
  kind := c.kind
  sc := c.sc
  N := c.N
  nd := c.nd
  calm := c.calm
  fn := c.fn
  room := c.room
  tk := tk
  g := { con := c.g.con
         fns := fun x k h => by obtain ⟨f, h1, h2, h3⟩ := c.g.fns x k h; exact ⟨f, h1, h2, ⟨h3.gd, h3.ex⟩⟩
         cls := fun x b k h => by obtain ⟨h1, f, h2, h3⟩ := c.g.cls x b k h; exact ⟨h1, f, h2, ⟨h3.gd, h3.ex⟩⟩
         own := fun n c' k h => by obtain ⟨f, h1, h2, h3⟩ := c.g.own n c' k h; exact ⟨f, h1, h2, ⟨h3.gd, h3.ex⟩⟩
         ok := c.g.ok
         fr := c.g.fr
         gd := c.g.gd
         exs := c.g.exs
         xa := c.g.xa
         isi := c.g.isi
         em := c.g.em
         its := c.g.its }
theorem takesW0 {X : Cx} : Takes X W0 := fun u s' ⟨a, B, sI, pins, σ, H, cls, d, e, I, nb, up, sky, na, os, ag, w⟩ => False.elim w
theorem hds_ok (c : COk C X W lev) : ∀ {hs : List ExceptHandler} {l : List Hd}, trHds n C hs = some l → HdsT X hs l
  | [], l, h => by cases h; exact .nil
  | a :: r, l, h => by
    unfold trHds at h
    cases ha : trHd n C a with
    | none => rw [ha] at h; cases h
    | some x =>
      cases hr : trHds n C r with
      | none => rw [ha, hr] at h; cases h
      | some l' =>
        rw [ha, hr] at h
        cases h
        have q := hds_ok c hr
        have sk : ∀ (b : Stmt) (su : List Stmt) (h : HC) (o : Obj) (pn : List (Addr × Obj)), Zc (.ref (He.ga X.K h.c)) h.d o → (∃ vs, o.data = .fields vs) → PSs (X.suite h.a ((h.a, o) :: pn)) (b :: su) (tS X.K W0 (hSs n C h (b :: su))) :=
          fun b su h o pn hz hf => hss c (ho n c hz hf takesW0) _
        unfold trHd at ha
        split at ha
        · rename_i y np b su pq
          split at ha
          · rename_i hh
            cases ha
            simp only [Bool.and_eq_true] at hh
            obtain ⟨p, hp⟩ := Option.isSome_iff_exists.mp hh.2
            exact .anon ⟨c.gl hh.1.1, (plainX_ok hh.1.2).1, .inl (c.g.exs y p.1 p.2 hp).1⟩ (sk b su) q
          · cases ha
        · rename_i y np z b su pq
          split at ha
          · rename_i hh
            simp only [Bool.and_eq_true] at hh
            obtain ⟨p, hp⟩ := Option.isSome_iff_exists.mp hh.1.2
            cases hi : ixOf z C.N with
            | none => rw [hi] at ha; cases ha
            | some i =>
              rw [hi] at ha
              cases ha
              exact .named ⟨c.gl hh.1.1.1, (plainX_ok hh.1.1.2).1, .inl (c.g.exs y p.1 p.2 hp).1⟩ (by rw [c.N]; exact ixOf_ok hi) (isLoc_ok c hh.2) (sk b su) q
          · cases ha
        · cases ha
theorem ss_st (hx : HpX X) (c : COk C X W lev) (ihX : ∀ (X : Cx) (W : WX), HpX X → COk C X W lev → Ss n C X W) (s : Stmt) : PS X s (tS X.K W (trSt (n + 1) C s)) := by
  have q := so n C X W lev c
  have hp := hx.ps
  have ih := ihX X W hx c
  have hN : X.N.Nodup := by rw [c.N]; exact c.nd
  have ix : ∀ {x i}, ixOf x C.N = some i → X.N[i]? = some x := fun h => by rw [c.N]; exact ixOf_ok h
  unfold trSt
  split
  · exact sm_pass
  · exact sm_break
  · exact sm_cont
  · exact sm_doc
  · split
    · rename_i h; exact sm_expr (q.e _) (sw_no h _ _ _)
    · exact sm_stuck
  · exact sm_ret (q.e _)
  · exact sm_retN
  · exact sm_if (q.t _) (ih.ss _) (ih.ss _)
  · split
    · rename_i g hg
      split
      · rename_i h
        exact sm_for hp c.calm (q.i _ _) (so_G c n _ g hg) (ih.ss _) (fold_ok h _)
      · exact sm_stuck
    · exact sm_stuck
  · exact sm_while hp (q.t _) (ih.ss _)
  · split
    · rename_i i m hi hm
      split
      · rename_i hl
        exact sm_lcAny c hi hl hm
      · exact sm_stuck
    · exact sm_stuck
  · split
    · rename_i i hi
      split
      · rename_i h
        rw [Bool.and_eq_true] at h
        obtain ⟨l1, l2⟩ := c.loc h.1
        exact sm_set hN (ix hi) l1 l2 (q.e _) (sw_no h.2 _ _ _)
      · exact sm_stuck
    · exact sm_stuck
  · split
    · split
      · split
        · rename_i i j hi hj
          split
          · rename_i h
            obtain ⟨h1, h2, h3, h4, h5, h6⟩ := h
            exact sm_par2 c.calm hN (ix hi) (ix hj) h2 (isLoc_ok c h3) (isLoc_ok c h4) (so_M c _ _ (by rw [List.all_cons, List.all_cons, h5, h6]; rfl)) (sw_eq c.kind (by rw [c.sc]; exact h1))
          · exact sm_stuck
        · exact sm_stuck
      · split
        · rename_i i j l hi hj hl
          split
          · rename_i h
            obtain ⟨h1, ⟨h2, h3, h4⟩, ⟨h5, h6, h7⟩, h8, h9, h10⟩ := h
            exact sm_par3 c.calm hN (ix hi) (ix hj) (ix hl) h2 h3 h4 (isLoc_ok c h5) (isLoc_ok c h6) (isLoc_ok c h7) (so_M c _ _ (by rw [List.all_cons, List.all_cons, List.all_cons, h8, h9, h10]; rfl)) (sw_eq c.kind (by rw [c.sc]; exact h1))
          · exact sm_stuck
        · exact sm_stuck
      · exact sm_stuck
    · rename_i hsw
      split
      · rename_i g hg
        split
        · rename_i h
          exact sm_asg (pm_tup (so_M c _ _ h)) (so_G c n _ g hg) sole_tg (sw_eq c.kind (by rw [c.sc]; exact hsw)) rfl
        · exact sm_asg (q.e _) (so_G c n _ g hg) sole_tg (sw_eq c.kind (by rw [c.sc]; exact hsw)) rfl
      · exact sm_stuck
    · exact sm_stuck
  · rename_i hne
    split
    · rename_i g hg
      refine sm_asg (q.e _) (so_G c n _ g hg) sole_tg (sw_one ?_) rfl
      split
      · exact absurd rfl (hne _ _ _)
      · rfl
    · exact sm_stuck
  · exact sm_sub (by have := c.hu; omega) (q.e _) (q.e _) (q.e _) (sw_tg rfl _ _)
  · exact sm_fld (gE C.G c.g _) (q.e _) (q.e _) (sw_tg rfl _ _)
  · split
    · rename_i h
      simp only [Bool.and_eq_true] at h
      split
      · rename_i fm fl he
        obtain ⟨g1, g2⟩ := c.g.exs _ fm fl he
        exact sm_raise c.calm g2 c.g.gd c.room c.tk (c.gl h.1.2) g1 (plainX_ok h.1.1).1 h.2 (fun e => by rw [e]; exact trA_nil n C) (q.a _)
      · exact sm_stuck
    · exact sm_stuck
  · split
    · rename_i l hl
      exact sm_try hx.st hx.fr hN c.tk (fun a x b e => c.g.em a x b e) (fun W' pn xe tk pw => (ihX (X.tr pn xe) W' ⟨pw, hx.st, hx.fr⟩ (c.tr tk)).ss _) (hds_ok c hl)
    · exact sm_stuck
  · exact sm_stuck
theorem ss : ∀ (n : Nat) {X : Cx} {W : WX}, HpX X → COk C X W lev → Ss n C X W
  | 0, _, _, hp, c => ⟨fun _ => sm_stuck, fun _ => sms_stuck⟩
  | n + 1, _, _, hp, c => ⟨ss_st hp c (fun X W h c' => ss n h c'), fun s => by
    unfold trS
    split
    · exact sms_nil
    · exact sms_cons ((ss n hp c).st _) ((ss n hp c).ss _)⟩
end
end Pc
set_option Elab.async false
set_option linter.all false
set_option maxRecDepth 100000
set_option maxHeartbeats 2000000
set_option autoImplicit false
/-! PcO4: a class's __iter__ that gives iter(self.f) -/
namespace Pc
open PySem PySem.Spec PyProof.Rows L2
section
variable {P : Program} {w : World} {K : PySem.W.Frag} {mg : Str → Option Value} {base : Heap}
theorem fnS_of {x qual : Str} {params : Arguments} {body : List Stmt} {scope : Scope} {f : Addr} {fd : FuncData} {N ps : List Str} {sp : Nat → Sp} {CX : CXT} (F : FunD K x qual params body scope [] [] f fd) (S : FnScope N ps scope) (len : ∀ n vs H Q E, sp n vs H Q E → vs.length = ps.length)
    (hbody : ∀ (cdv : Value) (A : Around) (outer : List PySem.Env) (s : Shared) (H : Hp) (vs : List V) (Q : VK) (E : XK), A.guards = some [] → A.handled = none → sp s.heap.objs.size vs H Q E →
      ∃ t, PSs (cxOf CX P w K mg base N qual scope f cdv A outer s H E) body t ∧ t { nx := fun _ H' => Q .non H', rt := Q } (L2.start N vs) H) : FnOkS P w K mg base CX f fd ps sp := by
  obtain ⟨oc, od, dV, kV, doc, pm, an, cdv, ct, osl, rfl, lk, hcd, _, _⟩ := F.ex
  refine ⟨len, fun A outer s H args us vs Q E hgd hh hdp e0 hb r hsp => ?_⟩
  have hl := len _ _ _ _ _ hsp
  have KX : K.In s.heap := e0.mod.kin.keeps fun b o e => (e0.bs b o e).1
  have lim : s.heap.NoLimit := e0.mod.nolimit.keeps fun b o e => (e0.bs b o e).1
  have hkind : ∀ y ∈ ps.zip us, scope.names.lookup y.1 = some .local ∨ (scope.names.lookup y.1 = some .cell ∧ ((cellsFrom (s.heap.objs.size + 1) scope.names []).lookup y.1).isSome = true) := fun ⟨n, v⟩ hy =>
    (S.par n (List.of_mem_zip hy).1).elim .inl fun q => .inr ⟨q, PySem.W.cellsFrom_some _ _ _ (.inl q)⟩
  refine codeAny_call_function hdp (KX _ _ lk) rfl S.co S.gen rfl (PySem.W.codeRec_of KX hcd) (hb _ _ _ _ (wpAny_newFunctionEnv_cells S.kind hkind fun env he s1 x => ?_))
  subst he
  refine ⟨lim.keeps x.toInCall.keep, codeAny_func ?_⟩
  obtain ⟨t, ht, hq⟩ := hbody cdv A outer s H vs Q E hgd hh hsp
  have I : Inv (cxOf CX P w K mg base N qual scope f cdv A outer s H E) [] (L2.start N vs) H s1 := inv_start S hh e0 hl r x
  have fin : ∀ {σ' : L2.St} {H' : Hp} {v : V} {u : Value} {s' : Shared}, Inv (cxOf CX P w K mg base N qual scope f cdv A outer s H E) [] σ' H' s' → L2.RelV v u → Q v H' → CE outer P w H s Q u s' :=
    fun {σ' H' v u s'} J rv q => ⟨v, H', J.os, J.bare, J.base, J.hok, rv, q⟩
  refine wpAny_mono (ht.run [] s1 (L2.start N vs) H _ I hq) (fun fl s' hs => ?_) fun e s' hs => hs
  cases fl with
  | ret u =>
    obtain ⟨v, σ', H', J, rv, q⟩ := hs
    exact fin J rv q
  | next =>
    obtain ⟨σ', H', J, q⟩ := hs
    exact fin (v := V.non) (u := Value.none) J rfl q
  | brk =>
    obtain ⟨_, _, _, q⟩ := hs
    exact False.elim q
  | cont =>
    obtain ⟨_, _, _, q⟩ := hs
    exact False.elim q
/-- the body of such an __iter__ -/
def itB (f : Str) (sc : Scope) (b : List Stmt) : Bool := match b with
  | [.Return (some (.Call (.Name x _) [.Attribute (.Name y _) g _] [] _)) _] => decide (x = "iter") && decide (y = "self") && decide (g = f) && gloB sc "iter" && visB sc "self"
  | _ => false
theorem itf_of {dn dq : Str} {da : Arguments} {db : List Stmt} {ds : Scope} {dN dps : List Str} {g : Addr} {fd : FuncData} {c f : Str} (F : FunD K dn dq da db ds [] [] g fd) (S : FnScope dN dps ds) (bd : Binds K fd dps []) (hps : dps = [("self" : Str)]) (hb : itB f ds db = true)
    (hm : mg "iter" = none) (cl : Cls K (He.ga K c)) (me : Meth K (He.ga K c) "__iter__" g) (na : NoAttr K (He.ga K c) f) : ItF P w K mg base c f := by
  refine ⟨g, fd, dps, cl, me, ?_, bd⟩
  refine fnS_of F S (fun n vs H Q E h => ?_) fun cdv A outer s H vs Q E hgd hh hsp => ?_
  · obtain ⟨a, dx, fs, t, xs, rfl, _⟩ := h
    rw [hps]; rfl
  · obtain ⟨a, dx, fs, t, xs, rfl, hH, hl, hq, hQ⟩ := hsp
    unfold itB at hb
    split at hb
    · rename_i x px y py g' pa pc pr
      simp only [Bool.and_eq_true, decide_eq_true_eq] at hb
      obtain ⟨⟨⟨⟨rfl, rfl⟩, rfl⟩, hg⟩, hv⟩ := hb
      have hN : dN[0]? = some ("self" : Str) := by
        have := S.pre
        rw [hps] at this
        cases hd : dN with
        | nil => rw [hd] at this; cases this
        | cons n r => rw [hd] at this; simp at this; rw [this]; rfl
      refine ⟨_, pss_cons (ps_ret (pe_callB call_iterT ?_ hm (by decide +kernel) (pa_cons (pe_fld (pe_var (i := 0) hN ?_ (by decide +kernel) (by decide +kernel)) rfl) pa_nil) (by decide +kernel) (by decide +kernel))) pss_nil, ?_⟩
      · unfold gloB at hg
        show ds.names.lookup ("iter" : Str) = _
        split at hg
        · assumption
        · cases hg
      · unfold visB at hv
        unfold Vis
        show ds.names.lookup ("self" : Str) = _ ∨ ds.names.lookup ("self" : Str) = _ ∨ ds.names.lookup ("self" : Str) = _
        split at hv <;> first | exact .inl (by assumption) | exact .inr (.inl (by assumption)) | exact .inr (.inr (by assumption)) | cases hv
      · refine ⟨.ref a, ?_, a, He.ga K c, dx, fs, .ref t, rfl, hH, cl, na, hl, t, xs, rfl, hq, fun it n z => hQ it n z⟩
        unfold L2.start
        rfl
    · cases hb
end
end Pc
set_option Elab.async false
set_option linter.all false
set_option maxRecDepth 100000
set_option maxHeartbeats 4000000
set_option autoImplicit false
/-! PcKn: defs, classes, the module's knot -/
namespace Pc
open PySem PySem.Spec PyProof.Rows L2

/-- a def of the text -/
structure FDef where
  at_ : Str × Option Str
  name : Str
  qual : Str
  ps : List Str
  N : List Str
  mu : List Str
  params : Arguments
  body : List Stmt
  scope : Scope
def FDef.defD (d : FDef) : He.DefD := ⟨d.at_, d.name, d.qual, d.params, d.body, d.scope, [], []⟩
def FDef.tc (d : FDef) (G : GE) (Y : Dy) : TC := ⟨d.N, d.scope, fun _ => true, d.mu, G, Y⟩
def startE (N : List Str) (ds : List D) : Sl := ds.map some ++ List.replicate (N.length - ds.length) none
/-- what a body comes to -/
def runS : RS → R RV
  | .nx _ M => .ok (.val .non) M
  | .rt rv M => .ok rv M
  | .exc c ns ds _ M => .exc c ns ds M
  | _ => .stuck
def depth : Nat := 60
noncomputable def runF (G : GE) (Y : Dy) (d : FDef) (ds : List D) (M : Mem) : R RV := gcR M.length (runS (trS depth (d.tc G Y) d.body (startE d.N ds) M))
abbrev Tab := List FDef
def Tab.fn (T : Tab) (x : Str) : Option FDef := T.find? fun d => decide (d.at_ = (x, none))
def Tab.me (T : Tab) (c m : Str) : Option FDef := T.find? fun d => decide (d.at_ = (c, some m))
noncomputable def mkDy (G : GE) (T : Tab) : Nat → Dy
  | 0 => ⟨fun _ _ _ => .stuck, fun _ _ _ _ => .stuck⟩
  | k + 1 => ⟨fun x ds M => match T.fn x with
      | some d => runF G (mkDy G T k) d ds M
      | none => .stuck, fun c m ds M => match T.me c m with
      | some d => runF G (mkDy G T k) d ds M
      | none => .stuck⟩

section
variable {K : PySem.W.Frag}
theorem start_rel {F : Hp} {io : List Addr} {N : List Str} {ds : List D} {vs : List V} (h : RelL K F io ds vs) : ER K F io (L2.start N vs) (startE N ds) := by
  have hl := h.length
  refine ⟨by unfold L2.start startE; rw [List.length_append, List.length_append, List.length_map, List.length_map, List.length_replicate, List.length_replicate, hl], fun i d e => ?_⟩
  unfold startE at e
  unfold L2.start
  by_cases hi : i < ds.length
  · rw [List.getElem?_append_left (by rw [List.length_map]; exact hi), List.getElem?_map] at e
    cases q : ds[i]? with
    | none => rw [q] at e; cases e
    | some d' =>
      rw [q] at e
      cases e
      obtain ⟨v, h1, h2⟩ := h.get q
      exact ⟨v, by rw [List.getElem?_append_left (by rw [List.length_map, ← hl]; exact hi), List.getElem?_map, h1]; rfl, h2⟩
  · rw [List.getElem?_append_right (by rw [List.length_map]; omega), List.getElem?_replicate] at e
    split at e
    · cases e
    · cases e
theorem post_run {W : WX} {F H : Hp} {io : List Addr} {σ : St} {Q : VK} {r : RS} {E : Value → Option Addr → Hp → Prop} (h : PostE K (fun c d _ H' => E c d H') F io H σ Q (runS r)) : PostS K (fun c d _ H' => E c d H') F io H { nx := fun _ H' => Q .non H', rt := Q } r := by
  cases r with
  | nx env M => exact fun F' io' H' σ' a b c => h F' io' H' .non a b rfl
  | rt rv M => exact h
  | exc c ns ds env M => exact fun F' io' H' dd σ' a b c d => h F' io' H' dd a b d
  | bk env M => exact False.elim h
  | ct env M => exact False.elim h
  | stuck => exact h
end

/-- the module's facts, apart from a context -/
structure GP (G : GE) (Y : Dy) (P : Program) (w : World) (K : PySem.W.Frag) (mg : Str → Option Value) (base : Heap) (lev : Nat) : Prop where
  con : ∀ x d, G.con.lookup x = some d → ∃ u v, mg x = some u ∧ RelV v u ∧ ∀ F io, Rel K F io d v
  fns : ∀ x k, G.fnA.lookup x = some k → ∃ f, mg x = some (.ref f) ∧ PySem.W.keepIn K (.ref f) = true ∧ ∃ fd ps, FnOkG P w K mg base (L2.CX P w) lev f fd ps (spF K (Y.call x) k) ∧ Binds K fd ps []
  cls : ∀ x b k, G.clA.lookup x = some (b, k) → mg x = some (.ref (He.ga K x)) ∧ ∃ fI, Mk K (He.ga K x) fI ∧ ∃ fd ps, FnOkG P w K mg base (L2.CX P w) lev fI fd ps (spF K (Y.meth x "__init__") k) ∧ Binds K fd ps []
  own : ∀ name c k, G.meA.lookup (name, c) = some k → ∃ g, Cls K (He.ga K c) ∧ Meth K (He.ga K c) name g ∧ ∃ fd ps, FnOkG P w K mg base (L2.CX P w) lev g fd ps (spF K (Y.meth c name) k) ∧ Binds K fd ps []
  ok : ∀ c f, G.okA.contains (c, f) = true → Cls K (He.ga K c) ∧ NoAttr K (He.ga K c) f
  fr : ∀ x, G.frA.contains x = true → mg x = none
  exs : ∀ x fm fl, G.exA.lookup x = some (fm, fl) → mg x = some (.ref (He.ga K x)) ∧ ExaOk P K (He.ga K x) fm fl
  xa : ∀ c f, G.xaA.contains (c, f) = true → XfC K (He.ga K c) ∧ PySem.W.findIn K (.ref (He.ga K c)) f = some none
  isi : ∀ c tb, G.isA.lookup c = some tb → (∃ u, ClsN K mg c u) ∧ ∀ k b, tb.lookup k = some b → KdOk K k ∧ ∃ u, ClsN K mg c u ∧ PySem.W.kitOne K (tyV K k) u = some b
  em : ∀ c x b, G.emA.lookup (c, x) = some b → PySem.W.exmOne K (.ref (He.ga K c)) (.ref (He.ga K x)) = some b
  its : ∀ c f, G.itA.lookup c = some f → ItF P w K mg base c f
theorem GP.gok {G : GE} {Y : Dy} {lev : Nat} {X : Cx} (g : GP G Y X.prog X.w X.K X.mg X.base lev) (gd : X.A.guards = some []) : GOk G Y X lev where
  con := g.con
  fns := fun x k h => by obtain ⟨f, h1, h2, h3⟩ := g.fns x k h; exact ⟨f, h1, h2, ⟨gd, h3⟩⟩
  cls := fun x b k h => by obtain ⟨h1, f, h2, h3⟩ := g.cls x b k h; exact ⟨h1, f, h2, ⟨gd, h3⟩⟩
  own := fun n c k h => by obtain ⟨f, h1, h2, h3⟩ := g.own n c k h; exact ⟨f, h1, h2, ⟨gd, h3⟩⟩
  ok := g.ok
  fr := g.fr
  gd := gd
  exs := g.exs
  xa := g.xa
  isi := g.isi
  em := g.em
  its := g.its
section
variable {P : Program} {w : World} {K : PySem.W.Frag} {mg : Str → Option Value} {base : Heap} {G : GE} {Y : Dy} {lev : Nat}
/-- a def by its body, where no repr is under way -/
theorem fn_ofG {x qual : Str} {params : Arguments} {body : List Stmt} {scope : Scope} {f : Addr} {fd : FuncData} {N ps : List Str} {k : Nat} {sp : Sp} {CX : CXT} (F : FunD K x qual params body scope [] [] f fd) (S : FnScope N ps scope) (len : ∀ vs H Q E, sp vs H Q E → vs.length = ps.length)
    (hbody : ∀ (cdv : Value) (A : Around) (outer : List PySem.Env) (s : Shared) (H : Hp) (vs : List V) (Q : VK) (E : XK), A.guards = some [] → Room k (A.deeper (envOfC qual scope s.heap.objs.size f cdv)) → sp vs H Q E →
      ∃ t, PSs (cxOf CX P w K mg base N qual scope f cdv A outer s H E) body t ∧ t { nx := fun _ H' => Q .non H', rt := Q } (L2.start N vs) H) : FnOkG P w K mg base CX (k + 1) f fd ps sp := by
  obtain ⟨oc, od, dV, kV, doc, pm, an, cdv, ct, osl, rfl, lk, hcd, _, _⟩ := F.ex
  refine ⟨len, fun A outer s H args us vs Q E hgd hr e0 hb r hsp => ?_⟩
  have hl := len _ _ _ _ hsp
  have KX : K.In s.heap := e0.mod.kin.keeps fun b o e => (e0.bs b o e).1
  have lim : s.heap.NoLimit := e0.mod.nolimit.keeps fun b o e => (e0.bs b o e).1
  have hkind : ∀ y ∈ ps.zip us, scope.names.lookup y.1 = some .local ∨ (scope.names.lookup y.1 = some .cell ∧ ((cellsFrom (s.heap.objs.size + 1) scope.names []).lookup y.1).isSome = true) := fun ⟨n, v⟩ hy =>
    (S.par n (List.of_mem_zip hy).1).elim .inl fun q => .inr ⟨q, PySem.W.cellsFrom_some _ _ _ (.inl q)⟩
  refine codeAny_call_function hr.depth (KX _ _ lk) rfl S.co S.gen rfl (PySem.W.codeRec_of KX hcd) (hb _ _ _ _ (wpAny_newFunctionEnv_cells S.kind hkind fun env he s1 x => ?_))
  subst he
  refine ⟨lim.keeps x.toInCall.keep, codeAny_func ?_⟩
  obtain ⟨t, ht, hq⟩ := hbody cdv A outer s H vs Q E hgd (hr.deeper _) hsp
  have I : Inv (cxOf CX P w K mg base N qual scope f cdv A outer s H E) [] (L2.start N vs) H s1 := inv_start S hr.hd e0 hl r x
  have fin : ∀ {σ' : L2.St} {H' : Hp} {v : V} {u : Value} {s' : Shared}, Inv (cxOf CX P w K mg base N qual scope f cdv A outer s H E) [] σ' H' s' → L2.RelV v u → Q v H' → CE outer P w H s Q u s' :=
    fun {σ' H' v u s'} J rv q => ⟨v, H', J.os, J.bare, J.base, J.hok, rv, q⟩
  refine wpAny_mono (ht.run [] s1 (L2.start N vs) H _ I hq) (fun fl s' hs => ?_) fun e s' hs => hs
  cases fl with
  | ret u =>
    obtain ⟨v, σ', H', J, rv, q⟩ := hs
    exact fin J rv q
  | next =>
    obtain ⟨σ', H', J, q⟩ := hs
    exact fin (v := V.non) (u := Value.none) J rfl q
  | brk =>
    obtain ⟨_, _, _, q⟩ := hs
    exact False.elim q
  | cont =>
    obtain ⟨_, _, _, q⟩ := hs
    exact False.elim q
/-- one def keeps its promise -/
theorem fn_of_def {d : FDef} {f : Addr} {fd : FuncData} (g : GP G Y P w K mg base lev) (F : FunD K d.name d.qual d.params d.body d.scope [] [] f fd) (S : FnScope d.N d.ps d.scope) : FnOkG P w K mg base (L2.CX P w) (lev + 2) f fd d.ps (spF K (runF G Y d) d.ps.length) := by
  refine fn_ofG F S spF_len fun cdv A outer s H vs Q E hgd hr h => ?_
  refine ⟨tS K (fun c d _ H' => E c d H') (trS depth (d.tc G Y) d.body), ?_, ?_⟩
  · refine (ss (C := d.tc G Y) (X := cxOf (L2.CX P w) P w K mg base d.N d.qual d.scope f cdv A outer s H E) (W := fun c d _ H' => E c d H') (lev := lev) depth ⟨passes_of rfl, rfl, rfl⟩ ?_).ss d.body
    exact ⟨S.kind, rfl, rfl, S.nd, rfl, fun _ _ => rfl, hr, takes_of rfl rfl rfl rfl, GP.gok g hgd⟩
  · obtain ⟨hl, F', io, M, ds, ha, rl, p⟩ := h
    refine ⟨F', io, startE d.N ds, M, ha, start_rel rl, post_run (W := fun c d _ H' => E c d H') (σ := []) ?_⟩
    have p' : PostE K (fun c d _ H' => E c d H') F' io H [] Q (gcR M.length (runS (trS depth (d.tc G Y) d.body (startE d.N ds) M))) := p
    exact post_gc (Nat.le_of_eq ha.len) p'
/-- nothing is asked of what is never run -/
theorem fn_none {ps : List Str} {f : Addr} {fd : FuncData} {k : Nat} : FnOkG P w K mg base (L2.CX P w) lev f fd ps (spF K (fun _ _ => .stuck) k) :=
  ⟨fun vs H Q E ⟨_, _, _, _, _, _, _, p⟩ => p.elim, fun A outer s H args us vs Q E _ _ _ _ _ ⟨_, _, _, _, _, _, _, p⟩ => p.elim⟩
/-- the module's facts that its text alone gives -/
structure GM (G : GE) (T : Tab) (P : Program) (K : PySem.W.Frag) (mg : Str → Option Value) : Prop where
  con : ∀ x d, G.con.lookup x = some d → ∃ u v, mg x = some u ∧ RelV v u ∧ ∀ F io, Rel K F io d v
  fns : ∀ x k, G.fnA.lookup x = some k → ∃ f d fd, mg x = some (.ref f) ∧ T.fn x = some d ∧ FunD K d.name d.qual d.params d.body d.scope [] [] f fd ∧ FnScope d.N d.ps d.scope ∧ Binds K fd d.ps [] ∧ d.ps.length = k
  cls : ∀ x b k, G.clA.lookup x = some (b, k) → mg x = some (.ref (He.ga K x)) ∧ ∃ fI d fd, Mk K (He.ga K x) fI ∧ T.me x "__init__" = some d ∧ FunD K d.name d.qual d.params d.body d.scope [] [] fI fd ∧ FnScope d.N d.ps d.scope ∧ Binds K fd d.ps [] ∧ d.ps.length = k
  own : ∀ name c k, G.meA.lookup (name, c) = some k → ∃ g d fd, Cls K (He.ga K c) ∧ Meth K (He.ga K c) name g ∧ T.me c name = some d ∧ FunD K d.name d.qual d.params d.body d.scope [] [] g fd ∧ FnScope d.N d.ps d.scope ∧ Binds K fd d.ps [] ∧ d.ps.length = k
  ok : ∀ c f, G.okA.contains (c, f) = true → Cls K (He.ga K c) ∧ NoAttr K (He.ga K c) f
  fr : ∀ x, G.frA.contains x = true → mg x = none
  exs : ∀ x fm fl, G.exA.lookup x = some (fm, fl) → mg x = some (.ref (He.ga K x)) ∧ ExaOk P K (He.ga K x) fm fl
  xa : ∀ c f, G.xaA.contains (c, f) = true → XfC K (He.ga K c) ∧ PySem.W.findIn K (.ref (He.ga K c)) f = some none
  isi : ∀ c tb, G.isA.lookup c = some tb → (∃ u, ClsN K mg c u) ∧ ∀ k b, tb.lookup k = some b → KdOk K k ∧ ∃ u, ClsN K mg c u ∧ PySem.W.kitOne K (tyV K k) u = some b
  em : ∀ c x b, G.emA.lookup (c, x) = some b → PySem.W.exmOne K (.ref (He.ga K c)) (.ref (He.ga K x)) = some b
  it : ∀ c f, G.itA.lookup c = some f → G.meA.lookup (("__iter__" : Str), c) = some 1 ∧ G.okA.contains (c, f) = true ∧ G.frA.contains "iter" = true ∧ ∃ d, T.me c "__iter__" = some d ∧ d.ps = [("self" : Str)] ∧ itB f d.scope d.body = true
theorem GM.its {T : Tab} (m : GM G T P K mg) (c f : Str) (h : G.itA.lookup c = some f) : ItF P w K mg base c f := by
  obtain ⟨h1, h2, h3, d, h4, h5, h6⟩ := m.it c f h
  obtain ⟨g, d', fd, a1, a2, a3, a4, a5, a6, a7⟩ := m.own "__iter__" c 1 h1
  rw [h4] at a3
  cases a3
  exact itf_of a4 a5 a6 h5 h6 (m.fr _ h3) a1 a2 (m.ok c f h2).2
theorem knot {T : Tab} (m : GM G T P K mg) : ∀ k : Nat, GP G (mkDy G T k) P w K mg base (2 * k)
  | 0 => ⟨m.con, fun x k h => by
      obtain ⟨f, d, fd, h1, h2, h3, h4, h5, h6⟩ := m.fns x k h
      exact ⟨f, h1, h3.kp, fd, d.ps, fn_none, h5⟩, fun x b k h => by
      obtain ⟨h1, fI, d, fd, h2, h3, h4, h5, h6, h7⟩ := m.cls x b k h
      exact ⟨h1, fI, h2, fd, d.ps, fn_none, h6⟩, fun n c k h => by
      obtain ⟨g, d, fd, h1, h2, h3, h4, h5, h6, h7⟩ := m.own n c k h
      exact ⟨g, h1, h2, fd, d.ps, fn_none, h6⟩, m.ok, m.fr, m.exs, m.xa, m.isi, m.em, m.its⟩
  | n + 1 => by
    have ih := knot m n
    refine ⟨m.con, fun x k h => ?_, fun x b k h => ?_, fun nm c k h => ?_, m.ok, m.fr, m.exs, m.xa, m.isi, m.em, m.its⟩
    · obtain ⟨f, d, fd, h1, h2, h3, h4, h5, h6⟩ := m.fns x k h
      refine ⟨f, h1, h3.kp, fd, d.ps, ?_, h5⟩
      have e : (mkDy G T (n + 1)).call x = runF G (mkDy G T n) d := by
        funext ds M
        show (match T.fn x with
          | some d => runF G (mkDy G T n) d ds M
          | none => .stuck) = _
        rw [h2]
      rw [e, ← h6]
      exact fn_of_def ih h3 h4
    · obtain ⟨h1, fI, d, fd, h2, h3, h4, h5, h6, h7⟩ := m.cls x b k h
      refine ⟨h1, fI, h2, fd, d.ps, ?_, h6⟩
      have e : (mkDy G T (n + 1)).meth x "__init__" = runF G (mkDy G T n) d := by
        funext ds M
        show (match T.me x "__init__" with
          | some d => runF G (mkDy G T n) d ds M
          | none => .stuck) = _
        rw [h3]
      rw [e, ← h7]
      exact fn_of_def ih h4 h5
    · obtain ⟨g, d, fd, h1, h2, h3, h4, h5, h6, h7⟩ := m.own nm c k h
      refine ⟨g, h1, h2, fd, d.ps, ?_, h6⟩
      have e : (mkDy G T (n + 1)).meth c nm = runF G (mkDy G T n) d := by
        funext ds M
        show (match T.me c nm with
          | some d => runF G (mkDy G T n) d ds M
          | none => .stuck) = _
        rw [h3]
      rw [e, ← h7]
      exact fn_of_def ih h4 h5
end
end Pc

set_option Elab.async false
set_option linter.all false
set_option maxRecDepth 100000
set_option maxHeartbeats 2000000
set_option autoImplicit false
/-! PcX7: the tables' new parts, seen in K; a law's end where no repr is under way -/
namespace Pc
open PySem PySem.Spec PyProof.Rows L2
def clvB (K : PySem.W.Frag) (c : Str) : Option Value := match PySem.W.nsIn K mainGlobals c with
  | some (some (.ref a)) => if a = He.ga K c then some (.ref a) else none
  | some none => (match bootBuiltins c with
    | some (.type T) => if c = ("__name__" : Str) then none else some (.type T)
    | _ => none)
  | _ => none
theorem clvB_ok {K : PySem.W.Frag} {h : Heap} {mg : Str → Option Value} (X : K.In h) (N : h.Ns mainGlobals mg) {c : Str} {u : Value} (e : clvB K c = some u) : ClsN K mg c u := by
  unfold clvB at e
  split at e
  · rename_i a ha
    split at e
    · rename_i hb
      cases e
      subst hb
      exact .inl ⟨rfl, PySem.W.mg_of X N ha⟩
    · cases e
  · rename_i hn
    split at e
    · rename_i T hT
      split at e
      · cases e
      · rename_i hx
        cases e
        exact .inr ⟨T, rfl, PySem.W.mg_none_of X N hn, hT, hx⟩
    · cases e
  · cases e
def xkB (K : PySem.W.Frag) (C : Addr) : Bool := (PySem.W.clsIn K C).isSome && decide (PySem.W.findIn K (.ref C) "__getattribute__" = some (some (.builtin "BaseException.__getattribute__"))) && decide (PySem.W.findIn K (.ref C) "__getattr__" = some none) &&
  decide (PySem.W.subIn K (.ref C) (.type "BaseException") = some true) && decide (PySem.W.findIn K (.ref C) "__class__" = some (some (.builtin "object.__class__"))) && decide (PySem.W.specialIn K (.builtin "object.__class__") "__get__" = some (some (.builtin "getset_descriptor.__get__"))) &&
  decide (PySem.W.takesIn K (.builtin "object.__class__") = some true) && decide (PySem.W.mroIn K C (.type "object") = some true)
theorem xkB_ok {K : PySem.W.Frag} {C : Addr} (h : xkB K C = true) : XkC K C := by
  unfold xkB at h
  simp only [Bool.and_eq_true, decide_eq_true_eq] at h
  obtain ⟨⟨⟨⟨⟨⟨⟨h1, h2⟩, h3⟩, h4⟩, h5⟩, h6⟩, h7⟩, h8⟩ := h
  exact ⟨h1, h2, h3, h4, h5, h6, h7, h8⟩
def okCB (K : PySem.W.Frag) (c : Str) : Bool := (He.Fa.cls c).ok K && decide (PySem.W.findIn K (.ref (He.ga K c)) "__class__" = some (some (.builtin "object.__class__"))) && decide (PySem.W.specialIn K (.builtin "object.__class__") "__get__" = some (some (.builtin "getset_descriptor.__get__"))) &&
  decide (PySem.W.takesIn K (.builtin "object.__class__") = some true) && decide (PySem.W.mroIn K (He.ga K c) (.type "object") = some true)
theorem okCB_ok {K : PySem.W.Frag} {c : Str} (h : okCB K c = true) : OkC K (He.ga K c) := by
  unfold okCB at h
  simp only [Bool.and_eq_true, decide_eq_true_eq] at h
  obtain ⟨⟨⟨⟨h1, h2⟩, h3⟩, h4⟩, h5⟩ := h
  exact ⟨He.cls_ok h1, h2, h3, h4, h5⟩
def kdB (K : PySem.W.Frag) (k : Kd) : Bool := (!decide (k.1 = 7) || okCB K k.2) && (!decide (k.1 = 8) || xkB K (He.ga K k.2))
theorem kdB_ok {K : PySem.W.Frag} {k : Kd} (h : kdB K k = true) : KdOk K k := by
  unfold kdB at h
  rw [Bool.and_eq_true] at h
  refine ⟨fun e => ?_, fun e => ?_⟩
  · have z := h.1
    rw [decide_eq_true e] at z
    exact okCB_ok z
  · have z := h.2
    rw [decide_eq_true e] at z
    exact xkB_ok z
/-- the checks beyond HandS's own -/
def xB (P : Program) (G : GE) (K : PySem.W.Frag) : Bool := G.exA.all (fun p => decide (PySem.W.nsIn K mainGlobals p.1 = some (some (.ref (He.ga K p.1)))) && exaB P K (He.ga K p.1) p.2.1 p.2.2) &&
  G.xaA.all (fun p => xfB K (He.ga K p.1) && decide (PySem.W.findIn K (.ref (He.ga K p.1)) p.2 = some none)) &&
  G.isA.all (fun p => match clvB K p.1 with
    | some u => p.2.all fun q => kdB K q.1 && decide (PySem.W.kitOne K (tyV K q.1) u = some q.2)
    | none => false) &&
  G.emA.all (fun p => decide (PySem.W.exmOne K (.ref (He.ga K p.1.1)) (.ref (He.ga K p.1.2)) = some p.2))
theorem mem_of_lk {α β : Type} [BEq α] [LawfulBEq α] {x : α} {y : β} : ∀ {l : List (α × β)}, l.lookup x = some y → (x, y) ∈ l
  | (a, b) :: l, h => by
    rw [List.lookup_cons] at h
    split at h
    · rename_i e
      cases h
      rw [beq_iff_eq.mp e]
      exact List.mem_cons_self
    · exact List.mem_cons_of_mem _ (mem_of_lk h)
section
variable {P : Program} {G : GE} {K : PySem.W.Frag} {h : Heap} {mg : Str → Option Value}
theorem xB_exs (X : K.In h) (N : h.Ns mainGlobals mg) (e : xB P G K = true) : ∀ x fm fl, G.exA.lookup x = some (fm, fl) → mg x = some (.ref (He.ga K x)) ∧ ExaOk P K (He.ga K x) fm fl := fun x fm fl hl => by
  unfold xB at e
  simp only [Bool.and_eq_true, List.all_eq_true] at e
  have q := e.1.1.1 _ (mem_of_lk hl)
  exact ⟨PySem.W.mg_of X N (of_decide_eq_true q.1), exa_ok q.2⟩
theorem xB_xa (e : xB P G K = true) : ∀ c f, G.xaA.contains (c, f) = true → XfC K (He.ga K c) ∧ PySem.W.findIn K (.ref (He.ga K c)) f = some none := fun c f hl => by
  unfold xB at e
  simp only [Bool.and_eq_true, List.all_eq_true] at e
  have q := e.1.1.2 _ (List.contains_iff_mem.mp hl)
  exact ⟨xfB_ok q.1, of_decide_eq_true q.2⟩
theorem xB_isi (X : K.In h) (N : h.Ns mainGlobals mg) (e : xB P G K = true) : ∀ c tb, G.isA.lookup c = some tb → (∃ u, ClsN K mg c u) ∧ ∀ k b, tb.lookup k = some b → KdOk K k ∧ ∃ u, ClsN K mg c u ∧ PySem.W.kitOne K (tyV K k) u = some b := fun c tb hl => by
  unfold xB at e
  rw [Bool.and_eq_true, Bool.and_eq_true] at e
  have q := List.all_eq_true.mp e.1.2 _ (mem_of_lk hl)
  dsimp only at q
  split at q
  · rename_i u hu
    have cn := clvB_ok X N hu
    refine ⟨⟨u, cn⟩, fun k b hk => ?_⟩
    have z := List.all_eq_true.mp q _ (mem_of_lk hk)
    rw [Bool.and_eq_true] at z
    exact ⟨kdB_ok z.1, u, cn, of_decide_eq_true z.2⟩
  · cases q
theorem xB_em (e : xB P G K = true) : ∀ c x b, G.emA.lookup (c, x) = some b → PySem.W.exmOne K (.ref (He.ga K c)) (.ref (He.ga K x)) = some b := fun c x b hl => by
  unfold xB at e
  rw [Bool.and_eq_true] at e
  exact of_decide_eq_true (List.all_eq_true.mp e.2 _ (mem_of_lk hl))
end
/-! ### the end -/
section
variable {P : Program} {w : World} {K : PySem.W.Frag} {mg mb : Str → Option Value} {CX : CXT} {k : Nat} {fa a : Addr} {fd : FuncData} {x : Str} {sp : Sp} {s : Shared} {vs : List Value} {ns : List Int}
/-- the law's def called, the script alone being tracked (or nothing) -/
theorem law_run (KX : K.In s.heap) (hns : s.heap.Ns mainGlobals mg) (hb : s.heap.Ns builtinsNs mb) (hbb : ∀ x : Str, x ≠ "__name__" → mb x = bootBuiltins x) (hlim : s.heap.NoLimit) (hg : s.gens = #[])
    (ha : s.heap.get? a = some { cls := .type "list", data := .seq vs.toArray }) (hr : Room k callerA) (F : ∀ base : Heap, FnOkG P w K mg base CX k fa fd [x] sp) (hbind : ∀ (s : Shared) (u : Value), BindsTo s fd ⟨[u], []⟩ [(x, u)])
    (hCX : ∀ H e s', CX [] H s (fun _ _ _ => False) e s' → False) {H : Hp} (hok : HOk P w H s.heap) (one : ∀ b o, H b = some o → b = a ∧ K.lookup a = none ∧ ∃ ob xs, o = .frz ob (.lst xs))
    (hsp : sp [.ref a] H (fun v _ => v = .bl true) fun _ _ _ => False) :
    codeAny (model P w) callerA (.call (.ref fa) ⟨[.ref a], []⟩) (fun r s' => r = .ok (.ret (.bool true)) ∧ OldK s.heap s'.heap ∧ s'.os = s.os ∧ AllBare s'.gens) s := by
  have none_of : ∀ {b : Addr}, (b = a → False) → H b = none := fun {b} n => by
    cases q : H b with
    | none => rfl
    | some o => exact (n (one b o q).1).elim
  have dictN : ∀ {b : Addr} {o : Obj} {es : Array DictEntry} {ep : Nat}, s.heap.get? b = some o → o.data = .dict es ep → H b = none := fun {b o es ep} e d => none_of fun z => by
    rw [z, ha] at e
    cases e
    cases d
  have nsG : ∀ {b : Addr} {m : Str → Option Value}, s.heap.Ns b m → (hidT s.heap H).Ns b m := fun {b m} ⟨o, es, ep, e, d, r⟩ => ⟨o, es, ep, hidT_get e (dictN e d), d, r⟩
  have kG : K.In (hidT s.heap H) := fun b o e => hidT_get (KX b o e) (by
    cases q : H b with
    | none => rfl
    | some u =>
      obtain ⟨rfl, hk, _⟩ := one b u q
      rw [hk] at e
      cases e)
  obtain ⟨mc, l1, l2⟩ := hlim
  have M : Mod K mg (hidT s.heap H) := ⟨kG, nsG hns, ⟨mb, nsG hb, hbb⟩, ⟨mc, nsG l1, l2⟩⟩
  have e0 : Env0 P w K mg (hidT s.heap H) callerA [] s H := ⟨rfl, M, fun b o e => of_hidT e, Nat.le_of_eq (hidT_size _ _), trivial, fun b hb => absurd (show b ∈ ([] : List Addr) from hb) (by simp), hok, .of_eq hg⟩
  refine codeAny_mono ((F _).run callerA [] s H ⟨[.ref a], []⟩ [.ref a] [.ref a] _ _ rfl hr e0 (hbind s (.ref a)) (.cons rfl .nil) hsp) fun r s' h => ?_
  cases r with
  | error e => exact (hCX H e s' h).elim
  | ok fl =>
    cases fl with
    | ret u =>
      obtain ⟨v, H', os, bare, un, hok', r', q⟩ := h
      obtain rfl : v = V.bl true := q
      obtain rfl : u = Value.bool true := r'
      refine ⟨rfl, OldK.of_keep fun b o e => ?_, os, bare⟩
      cases q : H b with
      | none => exact un.keep b o e q (fun z => absurd (show b ∈ ([] : List Addr) from z) (by simp)) (by simp)
      | some u =>
        obtain ⟨_, _, ob, xs, rfl⟩ := one b u q
        obtain ⟨e1, _⟩ := hok b _ q
        obtain ⟨e2, _⟩ := hok' b _ (un.frzs b ob _ q)
        rw [e] at e1
        cases e1
        exact e2
    | next => exact False.elim h
    | brk => exact False.elim h
    | cont => exact False.elim h
theorem law_callG (KX : K.In s.heap) (hns : s.heap.Ns mainGlobals mg) (hb : s.heap.Ns builtinsNs mb) (hbb : ∀ x : Str, x ≠ "__name__" → mb x = bootBuiltins x) (hlim : s.heap.NoLimit) (hg : s.gens = #[])
    (ha : s.heap.get? a = some { cls := .type "list", data := .seq vs.toArray }) (hi : IntsAre vs ns) (hl : ns.length ≤ sizeLine) (hr : Room k callerA) (F : ∀ base : Heap, FnOkG P w K mg base CX k fa fd [x] sp) (hbind : ∀ (s : Shared) (u : Value), BindsTo s fd ⟨[u], []⟩ [(x, u)])
    (hCX : ∀ H e s', CX [] H s (fun _ _ _ => False) e s' → False) (hsp : ∀ H : Hp, SqL K H a (ns.map V.int) → sp [.ref a] H (fun v _ => v = .bl true) fun _ _ _ => False) :
    codeAny (model P w) callerA (.call (.ref fa) ⟨[.ref a], []⟩) (fun r s' => r = .ok (.ret (.bool true)) ∧ OldK s.heap s'.heap ∧ s'.os = s.os ∧ AllBare s'.gens) s := by
  have rv := vals_ints hi
  cases hk : K.lookup a with
  | some o =>
    have e := KX a o hk
    rw [ha] at e
    cases e
    refine law_run (H := fun _ => none) KX hns hb hbb hlim hg ha hr F hbind hCX (fun b u z => by cases (show (none : Option HO) = some u from z)) (fun b u z => by cases (show (none : Option HO) = some u from z)) (hsp _ (.inr ⟨_, vs.toArray, _, hk, rfl, rfl, rfl, ?_, by simpa using rv⟩))
    rw [List.size_toArray, hi.length]
    exact hl
  | none =>
    have at_ : ∀ (b : Addr) (u : HO), (if b = a then some (HO.frz { cls := .type "list", data := .seq vs.toArray } (.lst (ns.map V.int))) else none) = some u → b = a ∧ u = .frz { cls := .type "list", data := .seq vs.toArray } (.lst (ns.map V.int)) := fun b u z => by
      split at z
      · rename_i e
        cases z
        exact ⟨e, rfl⟩
      · cases z
    refine law_run (H := fun b => if b = a then some (HO.frz { cls := .type "list", data := .seq vs.toArray } (.lst (ns.map V.int))) else none) KX hns hb hbb hlim hg ha hr F hbind hCX (fun b u z => ?_) (fun b u z => ?_) (hsp _ (.inl (.inr ⟨_, if_pos rfl⟩)))
    · obtain ⟨rfl, rfl⟩ := at_ b u z
      exact ⟨ha, by rw [List.length_map]; exact hl, vs, _, rv, ha⟩
    · obtain ⟨rfl, rfl⟩ := at_ b u z
      exact ⟨rfl, hk, _, _, rfl⟩
end
/-- a law from its promise -/
theorem walk_G {l : PySem.W.OpenLaw} {n k : Nat} {q : Program} {loose : List Str} {XP : (Str → Option Value) → Heap → Prop} {YP : World → Heap → Prop} {d : DefRec} {CX : CXT} {x : Str}
    (hn : l.most = some n) (hn2 : n ≤ sizeLine) (hdf : d.params.defaults = []) (hr : Room k callerA)
    (F : ∀ (w : World) (mg : Str → Option Value) (fa : Addr) (h : Heap), YP w h → h.Ns mainGlobals mg → mg d.name = some (.ref fa) →
      ∃ (K : PySem.W.Frag) (fd : FuncData) (sp : Sp), K.In h ∧ (∀ (s : Shared) (u : Value), BindsTo s fd ⟨[u], []⟩ [(x, u)]) ∧
        (∀ (H : Hp) (a : Addr) (ns : List Int), ns.length ≤ n → SqL K H a (ns.map V.int) → sp [.ref a] H (fun v _ => v = .bl true) fun _ _ _ => False) ∧
        ∀ base : Heap, FnOkG l.prog w K mg base CX k fa fd [x] sp)
    (hCX : ∀ (H : Hp) (s : Shared) (e : Value) (s' : Shared), CX [] H s (fun _ _ _ => False) e s' → False) :
    PySem.W.WalkO q loose XP YP l.row.toRowW d [] (fun f vs => PySem.call f vs) := by
  refine Att.attach_call hn hdf fun w s₀ s₁ mg mb fa o pm cd doc a vs ns G Y ho hd hcd hmg hobj hints hlen hg => ?_
  obtain ⟨K, fd, sp, KX, hb, hsp, hF⟩ := F w mg fa _ Y G.T.g hmg
  exact law_callG KX G.T.g G.T.b G.T.builtins G.T.nolimit hg hobj hints (Nat.le_trans hlen hn2) hr hF hb (fun H e s' => hCX H s₁ e s') fun H hS => hsp H a ns hlen hS
end Pc
set_option Elab.async false
set_option linter.all false
set_option maxRecDepth 100000
set_option maxHeartbeats 2000000
set_option autoImplicit false
/-! PcHd: a law's head -/
namespace Pc
open PySem PySem.Spec PyProof.Rows L2

/-! ### what is to be seen of each def -/
def FDef.good (d : FDef) : Bool := d.params.posonlyargs.isEmpty && d.params.kwonlyargs.isEmpty && d.params.vararg.isNone && d.params.kwarg.isNone && decide (d.params.args.map (·.arg) = d.ps) &&
  (match d.scope.kind with | .function => true | _ => false) && !d.scope.isCoroutine && !d.scope.isGenerator && decide d.N.Nodup && decide (d.N.take d.ps.length = d.ps) &&
  d.ps.all (fun x => match d.scope.names.lookup x with | some .local => true | some .cell => true | _ => false) && d.scope.names.all (fun y => match y.2 with | .free => false | _ => true)
theorem FDef.of_good {d : FDef} (h : d.good = true) : FnScope d.N d.ps d.scope ∧ ∀ {K : PySem.W.Frag} {f : Addr} {fd : FuncData}, FunD K d.name d.qual d.params d.body d.scope [] [] f fd → Binds K fd d.ps [] := by
  unfold FDef.good at h
  simp only [Bool.and_eq_true, List.isEmpty_iff, Option.isNone_iff_eq_none, decide_eq_true_eq, List.all_eq_true, Bool.not_eq_true'] at h
  obtain ⟨⟨⟨⟨⟨⟨⟨⟨⟨⟨⟨h1, h2⟩, h3⟩, h4⟩, h5⟩, h6⟩, h7⟩, h8⟩, h9⟩, h10⟩, h11⟩, h12⟩ := h
  refine ⟨⟨?_, h7, h8, h9, h10, fun x hx => ?_, fun y hy e => ?_⟩, fun F => F.bindsN fun kV doc pm an cdv ct us hl => bind_plain h1 h2 h3 h4 rfl h5 (take_nodup h9 h10) hl⟩
  · split at h6
    · assumption
    · cases h6
  · have := h11 x hx
    split at this
    · exact .inl (by assumption)
    · exact .inr (by assumption)
    · cases this
  · have := h12 y hy
    rw [e] at this
    cases this
/-! ### constants -/
mutual
def conV (K : PySem.W.Frag) : D → Value → Bool
  | .non, .none => true
  | .bl b, .bool c => b == c
  | .int i, .int j _ => decide (i = j)
  | .str x, .str y _ => decide (x = y)
  | .ctup xs, .ref a => (match K.lookup a with
    | some ⟨.type c, _, .seq its _, _⟩ => decide (c = "tuple") && decide (its.size ≤ sizeLine) && conVs K xs its.toList
    | _ => false)
  | _, _ => false
def conVs (K : PySem.W.Frag) : List D → List Value → Bool
  | [], [] => true
  | d :: ds, u :: us => conV K d u && conVs K ds us
  | _, _ => false
end
mutual
theorem conV_ok {K : PySem.W.Frag} : ∀ (d : D) (u : Value), conV K d u = true → ∃ v, RelV v u ∧ ∀ F io, Rel K F io d v
  | .non, .none, _ => ⟨.non, rfl, fun _ _ => rfl⟩
  | .bl b, .bool c, h => ⟨.bl b, by rw [show b = c from beq_iff_eq.mp h]; rfl, fun _ _ => rfl⟩
  | .int i, .int j t, h => ⟨.int i, ⟨t, by rw [show i = j from of_decide_eq_true h]⟩, fun _ _ => rfl⟩
  | .str x, .str y t, h => ⟨.str x, ⟨t, by rw [show x = y from of_decide_eq_true h]⟩, fun _ _ => rfl⟩
  | .ctup xs, .ref a, h => by
    rw [conV] at h
    split at h
    · rename_i c od its n sl hk
      rw [Bool.and_eq_true, Bool.and_eq_true] at h
      obtain ⟨vs, h1, h2⟩ := conVs_ok xs its.toList h.2
      have ec : c = "tuple" := of_decide_eq_true h.1.1
      exact ⟨.ref a, rfl, fun F io => ⟨a, vs, rfl, .inr ⟨_, its, n, hk, by rw [ec], rfl, of_decide_eq_true h.1.2, h1⟩, h2 F io⟩⟩
    · cases h
theorem conVs_ok {K : PySem.W.Frag} : ∀ (ds : List D) (us : List Value), conVs K ds us = true → ∃ vs, Vals vs us ∧ ∀ F io, RelL K F io ds vs
  | [], [], _ => ⟨[], .nil, fun _ _ => rfl⟩
  | d :: ds, u :: us, h => by
    rw [conVs, Bool.and_eq_true] at h
    obtain ⟨v, h1, h2⟩ := conV_ok d u h.1
    obtain ⟨vs, h3, h4⟩ := conVs_ok ds us h.2
    exact ⟨v :: vs, .cons h1 h3, fun F io => ⟨v, vs, rfl, h2 F io, h4 F io⟩⟩
end
def conB (K : PySem.W.Frag) (p : Str × D) : Bool := match PySem.W.nsIn K mainGlobals p.1 with
  | some (some u) => conV K p.2 u
  | _ => false
theorem conB_ok {K : PySem.W.Frag} {h : Heap} {mg : Str → Option Value} (X : K.In h) (G : h.Ns mainGlobals mg) {p : Str × D} (c : conB K p = true) : ∃ u v, mg p.1 = some u ∧ RelV v u ∧ ∀ F io, Rel K F io p.2 v := by
  unfold conB at c
  split at c
  · rename_i u hu
    obtain ⟨v, h1, h2⟩ := conV_ok p.2 u c
    exact ⟨u, v, PySem.W.mg_of X G hu, h1, h2⟩
  · cases c
/-! ### the Hook -/
/-- the facts that are wanted of K -/
def faOf (G : GE) : List He.Fa := G.fnA.map (fun p => .glo p.1) ++ G.clA.map (fun p => .glo p.1) ++ G.clA.map (fun p => .mkr p.1) ++ G.meA.map (fun p => .cls p.1.2) ++ G.meA.map (fun p => .meth p.1.2 p.1.1) ++ G.okA.map (fun p => .cls p.1) ++ G.okA.map (fun p => .noat p.1 p.2) ++ G.frA.map (fun x => .free x)
/-- the part of the heap that is looked at -/
def frP (g : Addr → Option Obj) (n : Nat) : PySem.W.Frag := He.frG g (cStatics :: He.asD g n)
def obsP (n : Nat) (fa : List He.Fa) (fn : List He.DefD) (ex : PySem.W.Frag → Bool) (g : Addr → Option Obj) : He.AlD × Bool := (He.obsD fa fn (frP g n), ex (frP g n))
def hookP (n : Nat) (fa : List He.Fa) (fn : List He.DefD) (ex : PySem.W.Frag → Bool) : PySem.W.Hook where
  α := He.AlD × Bool
  obs := fun s => obsP n fa fn ex s.heap.get?
  val := fun _ => (He.valD fn, true)
  says := fun _ h => ∃ K : PySem.W.Frag, K.In h ∧ He.SaysD fa fn K ∧ ex K = true
  of := fun _ _ e => ⟨_, He.frG_in, congrArg (fun z : He.AlD × Bool => z.1) e, congrArg (fun z : He.AlD × Bool => z.2) e⟩
  keeps := fun _ _ _ ⟨K, hK, c⟩ k => ⟨K, PySem.W.Frag.In.keeps hK k, c⟩
theorem obsP_eq {n : Nat} {fa : List He.Fa} {fn : List He.DefD} {ex : PySem.W.Frag → Bool} {g : Addr → Option Obj} {s : Shared} (h : ∀ a, g a = s.heap.get? a) : obsP n fa fn ex g = (hookP n fa fn ex).obs s := by
  have e : g = s.heap.get? := funext h
  rw [e] <;> rfl
/-- what the tables must agree on -/
def tabOk (G : GE) (T : Tab) : Bool := T.all FDef.good &&
  G.fnA.all (fun p => match T.fn p.1 with | some d => decide (d.ps.length = p.2) && decide (d.at_ = (p.1, none)) | none => false) &&
  G.clA.all (fun p => match T.me p.1 "__init__" with | some d => decide (d.ps.length = p.2.2) && decide (d.at_ = (p.1, some ("__init__" : Str))) | none => false) &&
  G.meA.all (fun p => match T.me p.1.2 p.1.1 with | some d => decide (d.ps.length = p.2) && decide (d.at_ = (p.1.2, some p.1.1)) | none => false) &&
  G.itA.all (fun p => decide (G.meA.lookup (("__iter__" : Str), p.1) = some 1) && G.okA.contains (p.1, p.2) && G.frA.contains "iter" && match T.me p.1 "__iter__" with | some d => decide (d.ps = [("self" : Str)]) && itB p.2 d.scope d.body | none => false)
theorem gm_of {P : Program} {G : GE} {T : Tab} {K : PySem.W.Frag} {h : Heap} {mg : Str → Option Value} (X : K.In h) (N : h.Ns mainGlobals mg) (ht : tabOk G T = true) (c : He.SaysD (faOf G) (T.map FDef.defD) K) (hc : G.con.all (conB K) = true) (hx : xB P G K = true) : GM G T P K mg := by
  unfold tabOk at ht
  simp only [Bool.and_eq_true, List.all_eq_true] at ht hc
  obtain ⟨⟨⟨⟨t1, t2⟩, t3⟩, t4⟩, t5⟩ := ht
  have def_ : ∀ {d : FDef}, d ∈ T → ∃ fd, FunD K d.name d.qual d.params d.body d.scope [] [] (He.fAd K d.at_) fd := fun {d} hd => c.defs (d := d.defD) (List.mem_map_of_mem hd)
  have fa : ∀ {f : He.Fa}, f ∈ faOf G → f.ok K = true := fun hf => c.facts hf
  refine ⟨fun x d hl => conB_ok X N (hc _ (mem_of_lk hl)), fun x k hl => ?_, fun x b k hl => ?_, fun nm cl k hl => ?_, fun cl f hl => ?_, fun x hl => ?_, xB_exs X N hx, xB_xa hx, xB_isi X N hx, xB_em hx, fun c f hl => ?_⟩
  · have q := t2 _ (mem_of_lk hl)
    cases r : T.fn x with
    | none => rw [r] at q; cases q
    | some d =>
      rw [r] at q
      simp only [Bool.and_eq_true, decide_eq_true_eq] at q
      have hd : d ∈ T := List.mem_of_find?_eq_some r
      obtain ⟨fd, F⟩ := def_ hd
      rw [q.2] at F
      obtain ⟨g1, g2⟩ := FDef.of_good (t1 d hd)
      refine ⟨He.ga K x, d, fd, He.glo_ok X N (fa (f := .glo x) ?_), rfl, F, g1, g2 F, q.1⟩
      unfold faOf
      simp only [List.mem_append, List.mem_map]
      exact .inl (.inl (.inl (.inl (.inl (.inl (.inl ⟨_, mem_of_lk hl, rfl⟩))))))
  · have q := t3 _ (mem_of_lk hl)
    cases r : T.me x "__init__" with
    | none => rw [r] at q; cases q
    | some d =>
      rw [r] at q
      simp only [Bool.and_eq_true, decide_eq_true_eq] at q
      have hd : d ∈ T := List.mem_of_find?_eq_some r
      obtain ⟨fd, F⟩ := def_ hd
      rw [q.2] at F
      obtain ⟨g1, g2⟩ := FDef.of_good (t1 d hd)
      refine ⟨He.glo_ok X N (fa (f := .glo x) ?_), He.ma K (He.ga K x) "__init__", d, fd, He.mkr_ok (fa (f := .mkr x) ?_), rfl, F, g1, g2 F, q.1⟩
      · unfold faOf
        simp only [List.mem_append, List.mem_map]
        exact .inl (.inl (.inl (.inl (.inl (.inl (.inr ⟨_, mem_of_lk hl, rfl⟩))))))
      · unfold faOf
        simp only [List.mem_append, List.mem_map]
        exact .inl (.inl (.inl (.inl (.inl (.inr ⟨_, mem_of_lk hl, rfl⟩)))))
  · have q := t4 _ (mem_of_lk hl)
    cases r : T.me cl nm with
    | none => rw [r] at q; cases q
    | some d =>
      rw [r] at q
      simp only [Bool.and_eq_true, decide_eq_true_eq] at q
      have hd : d ∈ T := List.mem_of_find?_eq_some r
      obtain ⟨fd, F⟩ := def_ hd
      rw [q.2] at F
      obtain ⟨g1, g2⟩ := FDef.of_good (t1 d hd)
      refine ⟨He.ma K (He.ga K cl) nm, d, fd, He.cls_ok (fa (f := .cls cl) ?_), He.meth_ok (fa (f := .meth cl nm) ?_), rfl, F, g1, g2 F, q.1⟩
      · unfold faOf
        simp only [List.mem_append, List.mem_map]
        exact .inl (.inl (.inl (.inl (.inr ⟨_, mem_of_lk hl, rfl⟩))))
      · unfold faOf
        simp only [List.mem_append, List.mem_map]
        exact .inl (.inl (.inl (.inr ⟨_, mem_of_lk hl, rfl⟩)))
  · have hm := List.contains_iff_mem.mp hl
    refine ⟨He.cls_ok (fa (f := .cls cl) ?_), He.noat_ok (fa (f := .noat cl f) ?_)⟩
    · unfold faOf
      simp only [List.mem_append, List.mem_map]
      exact .inl (.inl (.inr ⟨_, hm, rfl⟩))
    · unfold faOf
      simp only [List.mem_append, List.mem_map]
      exact .inl (.inr ⟨_, hm, rfl⟩)
  · have hm := List.contains_iff_mem.mp hl
    refine He.free_ok X N (fa (f := .free x) ?_)
    unfold faOf
    simp only [List.mem_append, List.mem_map]
    exact .inr ⟨_, hm, rfl⟩
  · have q := t5 _ (mem_of_lk hl)
    simp only [Bool.and_eq_true, decide_eq_true_eq] at q
    obtain ⟨⟨⟨q1, q2⟩, q3⟩, q4⟩ := q
    cases r : T.me c "__iter__" with
    | none => rw [r] at q4; cases q4
    | some d =>
      rw [r] at q4
      simp only [Bool.and_eq_true, decide_eq_true_eq] at q4
      exact ⟨q1, q2, q3, d, rfl, q4.1, q4.2⟩
/-- the law's promise -/
theorem law_sp {K : PySem.W.Frag} {φ : List D → Mem → R RV} {H : Hp} {a : Addr} {ns : List Int} (h : ∃ M, φ [.scr ns] [] = .ok (.val (.bl true)) M) (hs : SqL K H a (ns.map V.int)) : spF K φ 1 [.ref a] H (fun v _ => v = .bl true) fun _ _ _ => False := by
  obtain ⟨M, h⟩ := h
  refine ⟨rfl, H, [], [], [.scr ns], ⟨Same.refl _, rfl, List.nodup_nil, fun i o e => by simp at e⟩, ⟨.ref a, [], rfl, ⟨a, rfl, hs⟩, rfl⟩, ?_⟩
  rw [h]
  exact fun F' io' H' v _ _ r => r
theorem cx_none {P : Program} {w : World} (H : Hp) (s : Shared) (e : Value) (s' : Shared) : L2.CX P w [] H s (fun _ _ _ => False) e s' → False := by
  rintro ⟨_, _, _, _, _, _, _, _, _, _, _, _, z⟩
  exact z
/-- whatever the world -/
def CXA (P : Program) : CXT := fun o H s E e s' => ∃ w, L2.CX P w o H s E e s'
theorem fn_any {P : Program} {w : World} {K : PySem.W.Frag} {mg : Str → Option Value} {base : Heap} {k : Nat} {f : Addr} {fd : FuncData} {ps : List Str} {sp : Sp} (F : FnOkG P w K mg base (L2.CX P w) k f fd ps sp) : FnOkG P w K mg base (CXA P) k f fd ps sp :=
  ⟨F.len, fun A outer s H args us vs Q E hg hr e b r h => codeAny_mono (F.run A outer s H args us vs Q E hg hr e b r h) fun r s' q => by
    cases r with
    | ok fl => cases fl <;> exact q
    | error e => exact ⟨w, q⟩⟩
theorem cxa_none {P : Program} (H : Hp) (s : Shared) (e : Value) (s' : Shared) : CXA P [] H s (fun _ _ _ => False) e s' → False := fun ⟨_, h⟩ => cx_none H s e s' h
/-- the law's def: its binding, its promise -/
theorem law_facts {P : Program} {G : GE} {T : Tab} {n : Nat} {d : FDef} {x : Str} (ht : tabOk G T = true) (hk : G.fnA.lookup ("law" : Str) = some 1) (hd : T.fn ("law" : Str) = some d) (hx : d.ps = [x]) (hlaw : ∀ ns : List Int, ns.length ≤ 63 → ∃ M, (mkDy G T (n + 1)).call "law" [.scr ns] [] = .ok (.val (.bl true)) M)
    {w : World} {K : PySem.W.Frag} {h : Heap} {mg : Str → Option Value} {fa : Addr} (X : K.In h) (N : h.Ns mainGlobals mg) (hfa : mg ("law" : Str) = some (.ref fa)) (c : He.SaysD (faOf G) (T.map FDef.defD) K) (c2 : G.con.all (conB K) = true) (c3 : xB P G K = true) :
    ∃ (fd : FuncData) (sp : Sp), (∀ (s : Shared) (u : Value), BindsTo s fd ⟨[u], []⟩ [(x, u)]) ∧
      (∀ (H : Hp) (a : Addr) (ns : List Int), ns.length ≤ 63 → L2.SqL K H a (ns.map V.int) → sp [.ref a] H (fun v _ => v = .bl true) fun _ _ _ => False) ∧
      ∀ base : Heap, FnOkG P w K mg base (CXA P) (2 * n + 2) fa fd [x] sp := by
  have m : GM G T P K mg := gm_of X N ht c c2 c3
  obtain ⟨f, d', fd, h1, h2, h3, h4, h5, h6⟩ := m.fns "law" 1 hk
  rw [hd] at h2
  cases h2
  have ef : fa = f := by
    rw [hfa] at h1
    cases h1
    rfl
  subst ef
  have hg : d.good = true := by
    unfold tabOk at ht
    simp only [Bool.and_eq_true, List.all_eq_true] at ht
    exact ht.1.1.1.1 d (List.mem_of_find?_eq_some hd)
  have e : (mkDy G T (n + 1)).call "law" = runF G (mkDy G T n) d := by
    funext ds M
    show (match T.fn ("law" : Str) with
      | some d => runF G (mkDy G T n) d ds M
      | none => .stuck) = _
    rw [hd]
  refine ⟨fd, spF K (runF G (mkDy G T n) d) 1, fun s u => ?_, fun H a ns hl hs => law_sp (by rw [← e]; exact hlaw ns hl) hs, fun base => ?_⟩
  · unfold FDef.good at hg
    simp only [Bool.and_eq_true, List.isEmpty_iff, Option.isNone_iff_eq_none, decide_eq_true_eq, List.all_eq_true, Bool.not_eq_true'] at hg
    obtain ⟨⟨⟨⟨⟨⟨⟨⟨⟨⟨⟨g1, g2⟩, g3⟩, g4⟩, g5⟩, g6⟩, g7⟩, g8⟩, g9⟩, g10⟩, g11⟩, g12⟩ := hg
    rw [hx] at g5
    exact FunD.bindsA (ps := [x]) h3 (fun kV doc pm an cdv ct us hl => bind_plain g1 g2 g3 g4 rfl g5 (by simp) hl) s [u] rfl
  · have z := fn_of_def (P := P) (w := w) (base := base) (knot m n) h3 h4
    rw [hx] at z
    exact fn_any z
end Pc
set_option Elab.async false
set_option linter.all false
set_option maxRecDepth 100000
set_option maxHeartbeats 1000000
set_option autoImplicit false
/-! PcEv: how the readings compute -/
namespace Pc
open PySem PySem.Spec PyProof.Rows L2

/-- a mark that hangs on f: the simplifier leaves f alone -/
inductive Ub {γ : Type} (f : γ) : Type where
  | mk
def R.bnd {α β : Type} (r : R α) (f : α → Mem → R β) (_u : Ub f := .mk) : R β := r.bind f
def R.tos {α : Type} (r : R α) (e : Sl) (f : α → Mem → RS) (_u : Ub f := .mk) : RS := r.toS e f
def RS.sq (s : RS) (f : MS) (_u : Ub f := .mk) : RS := s.seq f
section
variable {α β : Type} {a : α} {M : Mem} {e : Sl}
theorem bnd_ok (f : α → Mem → R β) : (R.ok a M).bnd f = f a M := rfl
theorem bnd_exc (c : Str) (ns : List Str) (ds : List D) (f : α → Mem → R β) : (R.exc c ns ds M : R α).bnd f = .exc c ns ds M := rfl
theorem tos_ok (f : α → Mem → RS) : (R.ok a M).tos e f = f a M := rfl
theorem tos_exc (c : Str) (ns : List Str) (ds : List D) (f : α → Mem → RS) : (R.exc c ns ds M : R α).tos e f = .exc c ns ds e M := rfl
theorem sq_nx (f : MS) : (RS.nx e M).sq f = f e M := rfl
theorem sq_rt (rv : RV) (f : MS) : (RS.rt rv M).sq f = .rt rv M := rfl
theorem sq_bk (f : MS) : (RS.bk e M).sq f = .bk e M := rfl
theorem sq_ct (f : MS) : (RS.ct e M).sq f = .ct e M := rfl
theorem sq_exc (c : Str) (ns : List Str) (ds : List D) (f : MS) : (RS.exc c ns ds e M).sq f = .exc c ns ds e M := rfl
theorem bind_ok (f : α → Mem → R β) : (R.ok a M).bind f = f a M := rfl
theorem bind_exc (c : Str) (ns : List Str) (ds : List D) (f : α → Mem → R β) : (R.exc c ns ds M : R α).bind f = .exc c ns ds M := rfl
theorem map_ok (f : α → β) : (R.ok a M).map f = .ok (f a) M := rfl
theorem map_exc (c : Str) (ns : List Str) (ds : List D) (f : α → β) : (R.exc c ns ds M : R α).map f = .exc c ns ds M := rfl
theorem toS_ok (f : α → Mem → RS) : (R.ok a M).toS e f = f a M := rfl
theorem toS_exc (c : Str) (ns : List Str) (ds : List D) (f : α → Mem → RS) : (R.exc c ns ds M : R α).toS e f = .exc c ns ds e M := rfl
theorem seq_nx (f : MS) : (RS.nx e M).seq f = f e M := rfl
theorem seq_rt (rv : RV) (f : MS) : (RS.rt rv M).seq f = .rt rv M := rfl
theorem seq_bk (f : MS) : (RS.bk e M).seq f = .bk e M := rfl
theorem seq_ct (f : MS) : (RS.ct e M).seq f = .ct e M := rfl
theorem seq_exc (c : Str) (ns : List Str) (ds : List D) (f : MS) : (RS.exc c ns ds e M).seq f = .exc c ns ds e M := rfl
theorem runS_nx : runS (.nx e M) = .ok (.val .non) M := rfl
theorem runS_rt (rv : RV) : runS (.rt rv M) = .ok rv M := rfl
theorem runS_exc (c : Str) (ns : List Str) (ds : List D) : runS (.exc c ns ds e M) = .exc c ns ds M := rfl
theorem noX_ok : noX (R.ok a M) = .ok a M := rfl
theorem d_val (d : D) : RV.d (.val d) = d := rfl
theorem d_own (o : MO) : RV.d (.own o) = o.d := rfl
theorem al_val (mu : Bool) (d : D) : alD mu (.ok (.val d) M) = .ok d M := by cases mu <;> rfl
theorem al_f (o : MO) : alD false (.ok (.own o) M) = .ok o.d M := rfl
theorem al_t (o : MO) : alD true (.ok (.own o) M) = .ok (.ref M.length) (M ++ [o]) := rfl
end
section
variable {M : Mem} {e : Sl} {m m1 m2 m3 : ME} {t t1 t2 : MT} {a b : MS} {ms : MDs} {mu : Bool} {i : Nat}
theorem e_seq : mSeq a b e M = (a e M).sq b := rfl
theorem e_next : mNext e M = .nx e M := rfl
theorem e_bk : mBreak e M = .bk e M := rfl
theorem e_ct : mCont e M = .ct e M := rfl
theorem e_ret : mRet m e M = (m e M).tos e fun rv M1 => .rt rv M1 := rfl
theorem e_retN : mRetN e M = .rt (.val .non) M := rfl
theorem e_ifS : mIfS t a b e M = (t e M).tos e fun c M1 => if c then a e M1 else b e M1 := rfl
theorem e_set : mSet mu i m e M = (mA mu m e M).tos e fun d M1 => .nx (e.set i (some d)) M1 := rfl
theorem e_drop : mDrop m e M = (mD m e M).tos e fun _ M1 => .nx e M1 := rfl
theorem e_A : mA mu m e M = alD mu (m e M) := rfl
theorem e_D : mD m e M = (m e M).map RV.d := rfl
theorem e_val (d : D) : mVal d e M = .ok (.val d) M := rfl
theorem e_var0 (d : D) (r : Sl) : mVar 0 (some d :: r) M = .ok (.val d) M := rfl
theorem e_varS (n : Nat) (x : Option D) (r : Sl) : mVar (n + 1) (x :: r) M = mVar n r M := rfl
theorem e_nil : mNil e M = .ok [] M := rfl
theorem e_cons : mConsA mu m ms e M = (mA mu m e M).bnd fun d M1 => (ms e M1).bnd fun ds M2 => .ok (d :: ds) M2 := rfl
theorem e_cmp (op : CmpOp) : mCmp op m1 m2 e M = (mD m1 e M).bnd fun d1 M1 => (mD m2 e M1).bnd fun d2 M2 => cmpS op d1 d2 M2 := rfl
theorem e_bin (op : Operator) : mBin op m1 m2 e M = (mD m1 e M).bnd fun d1 M1 => (mD m2 e M1).bnd fun d2 M2 => binS op d1 d2 M2 := rfl
theorem e_blt (f : List D → Mem → R RV) : mBlt f ms e M = (ms e M).bnd f := rfl
theorem e_call (n : Nat) (φ : List D → Mem → R RV) : mCall n φ ms e M = (ms e M).bnd fun ds M1 => if ds.length = n then φ ds M1 else .stuck := rfl
def blK (rv : RV) (M1 : Mem) : R Bool := match rv with
  | .val (.bl b) => .ok b M1
  | _ => .stuck
theorem blK_b (c : Bool) : blK (.val (.bl c)) M = .ok c M := rfl
theorem e_bl : mBl m e M = (m e M).bnd blK := rfl
def trK (d : D) (M1 : Mem) : R Bool := match truO d M1 with
  | some b => .ok b M1
  | none => .stuck
theorem trK_b (c : Bool) : trK (.bl c) M = .ok c M := rfl
theorem e_tru : mTru m e M = (mD m e M).bnd trK := rfl
theorem e_notT : mNotT t e M = (t e M).map not := rfl
theorem e_andT : mAndT t1 t2 e M = (t1 e M).bnd fun c M1 => if c then t2 e M1 else .ok false M1 := rfl
theorem e_orT : mOrT t1 t2 e M = (t1 e M).bnd fun c M1 => if c then .ok true M1 else t2 e M1 := rfl
def andK (m2 : ME) (e : Sl) (d : D) (M1 : Mem) : R RV := match truO d M1 with
  | some true => m2 e M1
  | some false => .ok (.val d) M1
  | none => .stuck
theorem andK_b (c : Bool) : andK m2 e (.bl c) M = if c then m2 e M else .ok (.val (.bl false)) M := by cases c <;> rfl
theorem e_and : mAnd m1 m2 e M = (mD m1 e M).bnd (andK m2 e) := rfl
def orK (m2 : ME) (e : Sl) (d : D) (M1 : Mem) : R RV := match truO d M1 with
  | some false => m2 e M1
  | some true => .ok (.val d) M1
  | none => .stuck
theorem orK_b (c : Bool) : orK m2 e (.bl c) M = if c then .ok (.val (.bl true)) M else m2 e M := by cases c <;> rfl
theorem e_or : mOr m1 m2 e M = (mD m1 e M).bnd (orK m2 e) := rfl
def notK (d : D) (M1 : Mem) : R RV := match truO d M1 with
  | some b => vB (!b) M1
  | none => .stuck
theorem notK_b (c : Bool) : notK (.bl c) M = .ok (.val (.bl !c)) M := rfl
theorem e_not : mNot m e M = (mD m e M).bnd notK := rfl
def negK (d : D) (M1 : Mem) : R RV := match d with
  | .int i => vI (-i) M1
  | _ => .stuck
theorem negK_i (i : Int) : negK (.int i) M = .ok (.val (.int (-i))) M := rfl
theorem e_neg : mNeg m e M = (mD m e M).bnd negK := rfl
theorem e_if : mIf t m1 m2 e M = (t e M).bnd fun c M1 => if c then m1 e M1 else m2 e M1 := rfl
def chK (op' : CmpOp) (m3 : ME) (e : Sl) (d2 : D) (rv : RV) (M3 : Mem) : R RV := match rv with
  | .val (.bl true) => (mD m3 e M3).bind fun d3 M4 => cmpS op' d2 d3 M4
  | .val (.bl false) => vB false M3
  | _ => .stuck
theorem chK_b (op' : CmpOp) (d2 : D) (c : Bool) : chK op' m3 e d2 (.val (.bl c)) M = if c then (mD m3 e M).bnd fun d3 M4 => cmpS op' d2 d3 M4 else .ok (.val (.bl false)) M := by cases c <;> rfl
theorem e_chain (op op' : CmpOp) : mChain op op' m1 m2 m3 e M = (mD m1 e M).bnd fun d1 M1 => (mD m2 e M1).bnd fun d2 M2 => (cmpS op d1 d2 M2).bnd (chK op' m3 e d2) := rfl
theorem e_tup : mTup ms e M = (ms e M).bnd fun ds M1 => if ds.length ≤ sizeLine then .ok (.val (.tup ds)) M1 else .stuck := rfl
theorem e_lst : mLst ms e M = (ms e M).bnd fun ds M1 => if ds.length ≤ sizeLine then .ok (.own (.lst ds)) M1 else .stuck := rfl
theorem e_idx : mIdx m1 m2 e M = (mD m1 e M).bnd fun d1 M1 => (mD m2 e M1).bnd fun d2 M2 => idxS d1 d2 M2 := rfl
theorem e_attr (ok : Str → Str → Bool) (f : Str) : mAttr ok f m e M = (mD m e M).bnd fun d M1 => attrS ok f d M1 := rfl
theorem e_attrX (ok okx : Str → Str → Bool) (f : Str) : mAttrX ok okx f m e M = (mD m e M).bnd fun d M1 => attrX ok okx f d M1 := rfl
theorem e_exo (c : Str) (fm : Bool) (fl : Option Str) : mExo c fm fl ms e M = (ms e M).bnd (mkExo c fm fl) := rfl
def isiK (t : Kd → Option Bool) (d : D) (M1 : Mem) : R RV := match (knd M1 d).bind t with
  | some b => .ok (.val (.bl b)) M1
  | none => .stuck
theorem e_isi (t : Kd → Option Bool) : mIsi t m e M = (mD m e M).bnd (isiK t) := rfl
theorem isiK_exo {t : Kd → Option Bool} {c : Str} {ns : List Str} {ds : List D} {b : Bool} (h : t (8, c) = some b) : isiK t (.exo c ns ds) M = .ok (.val (.bl b)) M := by
  unfold isiK
  show (match (some ((8 : Nat), c)).bind t with
    | some b => R.ok (RV.val (D.bl b)) M
    | none => .stuck) = _
  rw [Option.bind_some, h]
theorem e_slice (lo hi : MPt) : mSlice m lo hi e M = (mD m e M).bnd fun d M1 => (lo e M1).bnd fun l M2 => (hi e M2).bnd fun u M3 => slS d l u M3 := rfl
theorem e_noP : mNoPart e M = .ok none M := rfl
def ptK (d : D) (M1 : Mem) : R (Option Int) := match d with
  | .int i => .ok (some i) M1
  | .non => .ok none M1
  | _ => .stuck
theorem e_lc (mi : MI) (tg : MG) (md : MD) (vs : List Nat) : mLc mi tg t md vs e M = (mi e M).bnd fun g M1 => (lcL g.2 tg t md vs e g.1 0 M1 []).bnd fun ds M2 => .ok (.own (.lst ds)) M2 := rfl
theorem e_for (mi : MI) (tg : MG) : mFor mi tg a e M = (mi e M).tos e fun g M1 => forL g.2 tg a g.1 0 e M1 := rfl
theorem e_iany : mIAny m e M = (mD m e M).bnd anyI := rfl
theorem e_ienu : mIEnu ms e M = (ms e M).bnd enuS := rfl
theorem e_irng1 : mIRng1 ms e M = (ms e M).bnd rng1S := rfl
theorem e_irng2 : mIRng2 ms e M = (ms e M).bnd rng2S := rfl
theorem e_par (is : List Nat) : mPar is ms e M = (ms e M).tos e fun ds M1 => if ds.length = is.length then .nx (putE e (is.zip ds)) M1 else .stuck := rfl
def asK (g : MG) (e : Sl) (d : D) (M1 : Mem) : RS := match g d with
  | some bs => .nx (putE e bs) M1
  | none => .stuck
theorem e_asg (g : MG) : mAsg g m e M = (mD m e M).tos e (asK g e) := rfl
def stK (e : Sl) (o : Option Mem) : RS := match o with
  | some M4 => .nx e M4
  | none => .stuck
theorem e_sub (mi mo me : ME) : mSub mu me mo mi e M = (mA mu me e M).tos e fun v M1 => (mD mo e M1).tos e fun o M2 => (mD mi e M2).tos e fun i M3 => stK e (setS o i v M3) := rfl
theorem e_fld (ok : Str → Str → Bool) (f : Str) (me mo : ME) : mFld mu ok f me mo e M = (mA mu me e M).tos e fun v M1 => (mD mo e M1).tos e fun o M2 => stK e (setF ok f o v M2) := rfl
theorem stK_s (M4 : Mem) : stK e (some M4) = .nx e M4 := rfl
end
theorem gc_same (d : D) (M : Mem) : gcR M.length (.ok (.val d) M) = .ok (.val d) M := by
  unfold gcR
  dsimp only
  rw [List.take_length]
  split
  · split
    · rfl
    · cases d with
      | ref i =>
        dsimp only
        split
        · rename_i o ho
          have := (List.getElem?_eq_some_iff.mp ho).1
          rw [if_neg (by omega)]
        · rfl
      | _ => rfl
  · rfl
theorem gc_own (o : MO) (M : Mem) : ∃ M', gcR M.length (.ok (.own o) M) = .ok (.own o) M' ∧ M' = M := by
  unfold gcR
  dsimp only
  rw [List.take_length]
  split
  · split <;> exact ⟨M, rfl, rfl⟩
  · exact ⟨M, rfl, rfl⟩
theorem gc_own' (o : MO) (M : Mem) : gcR M.length (.ok (.own o) M) = .ok (.own o) M := by
  obtain ⟨M', h, e⟩ := gc_own o M
  rw [h, e]
/-! ### loops whose turns change nothing -/
theorem lc_from {g : GI} {tg : MG} {t : MT} {e : MD} {vs : List Nat} {env : Sl} {M : Mem} (xs : List D) (p : D → Bool) (f : D → D) (hg : ∀ k, g M k = some xs[k]?) (hl : xs.length ≤ sizeLine)
    (hb : ∀ x ∈ xs, ∃ bs, tg x = some bs ∧ (bs.all fun b => vs.contains b.1) = true ∧ t (putE (wipeS env vs) bs) M = .ok (p x) M ∧ (p x = true → e (putE (wipeS env vs) bs) M = .ok (f x) M)) :
    ∀ (n k : Nat) (acc : List D), k + n = xs.length → acc.length ≤ k → lcL g tg t e vs env n k M acc = .ok (acc ++ ((xs.drop k).filter p).map f) M
  | 0, k, acc, hk, ha => by
    unfold lcL
    rw [hg k, List.getElem?_eq_none (by omega), List.drop_eq_nil_of_le (by omega)]
    simp
  | n + 1, k, acc, hk, ha => by
    have hlt : k < xs.length := by omega
    unfold lcL
    rw [hg k, List.getElem?_eq_getElem hlt]
    obtain ⟨bs, h1, h2, h3, h4⟩ := hb xs[k] (List.getElem_mem hlt)
    simp only [h1, h2, h3, noX_ok, bind_ok, if_true]
    rw [List.drop_eq_getElem_cons hlt, List.filter_cons]
    cases hp : p xs[k] with
    | false =>
      simp only [Bool.false_eq_true, if_false]
      exact lc_from xs p f hg hl hb n (k + 1) acc (by omega) (by omega)
    | true =>
      simp only [if_true, h4 hp, noX_ok, bind_ok]
      rw [if_pos (by omega), lc_from xs p f hg hl hb n (k + 1) (acc ++ [f xs[k]]) (by omega) (by rw [List.length_append]; simp; omega)]
      simp
theorem lc_pure {g : GI} {tg : MG} {t : MT} {e : MD} {vs : List Nat} {env : Sl} {M : Mem} (xs : List D) (p : D → Bool) (f : D → D) (hg : ∀ k, g M k = some xs[k]?) (hl : xs.length ≤ sizeLine)
    (hb : ∀ x ∈ xs, ∃ bs, tg x = some bs ∧ (bs.all fun b => vs.contains b.1) = true ∧ t (putE (wipeS env vs) bs) M = .ok (p x) M ∧ (p x = true → e (putE (wipeS env vs) bs) M = .ok (f x) M)) :
    lcL g tg t e vs env xs.length 0 M [] = .ok ((xs.filter p).map f) M := by
  rw [lc_from xs p f hg hl hb xs.length 0 [] (by omega) (Nat.le_refl _)]
  simp
end Pc
set_option Elab.async false
set_option linter.all false
set_option maxRecDepth 100000
set_option maxHeartbeats 1000000
set_option autoImplicit false
/-! PcE2: how the operators compute -/
namespace Pc
open PySem PySem.Spec PyProof.Rows L2
section
variable {M : Mem}
def sOk (x : Str) : Prop := PyData.strOk x = true
theorem sh_str {x : Str} (h : sOk x) : SeqAt.shaped (.str x) = true := by
  unfold SeqAt.shaped
  rw [show PyData.canLay0 (.str x) = PyData.strOk x from by simp only [PyData.canLay0], h]
  simp [PyData.depth]
theorem sh_int (i : Int) : SeqAt.shaped (.int i) = true := by
  unfold SeqAt.shaped
  simp [PyData.canLay0, PyData.depth]
theorem eqO_str {a b : Str} (ha : sOk a) (hb : sOk b) : eqO (.str a) (.str b) M = some (a == b) := by
  show (if SeqAt.shaped (.str a) = true ∧ SeqAt.shaped (.str b) = true then some (PyData.eqv (.str a) (.str b)) else none) = _
  rw [if_pos ⟨sh_str ha, sh_str hb⟩]
  simp only [PyData.eqv]
theorem eqO_int (i j : Int) : eqO (.int i) (.int j) M = some (i == j) := by
  show (if SeqAt.shaped (.int i) = true ∧ SeqAt.shaped (.int j) = true then some (PyData.eqv (.int i) (.int j)) else none) = _
  rw [if_pos ⟨sh_int i, sh_int j⟩]
  simp only [PyData.eqv]
theorem eq_str {a b : Str} (ha : sOk a) (hb : sOk b) : cmpS .Eq (.str a) (.str b) M = .ok (.val (.bl (a == b))) M := by
  show rB (eqO (.str a) (.str b) M) M = _
  rw [eqO_str ha hb]; rfl
theorem ne_str {a b : Str} (ha : sOk a) (hb : sOk b) : cmpS .NotEq (.str a) (.str b) M = .ok (.val (.bl (!(a == b)))) M := by
  show rB ((eqO (.str a) (.str b) M).map not) M = _
  rw [eqO_str ha hb]; rfl
theorem eq_int (i j : Int) : cmpS .Eq (.int i) (.int j) M = .ok (.val (.bl (i == j))) M := by
  show rB (eqO (.int i) (.int j) M) M = _
  rw [eqO_int]; rfl
theorem ne_int (i j : Int) : cmpS .NotEq (.int i) (.int j) M = .ok (.val (.bl (!(i == j)))) M := by
  show rB ((eqO (.int i) (.int j) M).map not) M = _
  rw [eqO_int]; rfl
theorem lt_int (i j : Int) : cmpS .Lt (.int i) (.int j) M = .ok (.val (.bl (decide (i < j)))) M := rfl
theorem le_int (i j : Int) : cmpS .LtE (.int i) (.int j) M = .ok (.val (.bl (decide (i ≤ j)))) M := rfl
theorem gt_int (i j : Int) : cmpS .Gt (.int i) (.int j) M = .ok (.val (.bl (decide (j < i)))) M := rfl
theorem ge_int (i j : Int) : cmpS .GtE (.int i) (.int j) M = .ok (.val (.bl (decide (j ≤ i)))) M := rfl
theorem in_sign (c : Nat) (z : Str) : cmpS .In (.str ⟨#[c]⟩) (.str z) M = .ok (.val (.bl (decide (c ∈ z.cps.toList)))) M := rfl
theorem is_non : cmpS .Is .non .non M = .ok (.val (.bl true)) M := rfl
theorem isNot_non : cmpS .IsNot .non .non M = .ok (.val (.bl false)) M := rfl
theorem is_tup (xs : List D) : cmpS .Is (.tup xs) .non M = .ok (.val (.bl false)) M := rfl
theorem isNot_tup (xs : List D) : cmpS .IsNot (.tup xs) .non M = .ok (.val (.bl true)) M := rfl
theorem is_int (i : Int) : cmpS .Is (.int i) .non M = .ok (.val (.bl false)) M := rfl
theorem isNot_int (i : Int) : cmpS .IsNot (.int i) .non M = .ok (.val (.bl true)) M := rfl
theorem len_str {z : Str} (h : z.length ≤ sizeLine) : lenS [.str z] M = .ok (.val (.int z.length)) M := by
  show (if z.length ≤ sizeLine then vI z.length M else .stuck) = _
  rw [if_pos h]; rfl
theorem len_tup (xs : List D) : lenS [.tup xs] M = .ok (.val (.int xs.length)) M := rfl
theorem len_ctup (xs : List D) : lenS [.ctup xs] M = .ok (.val (.int xs.length)) M := rfl
theorem len_lst (xs : List D) : lenS [.lst xs] M = .ok (.val (.int xs.length)) M := rfl
theorem add_int (i j : Int) : binS .Add (.int i) (.int j) M = .ok (.val (.int (i + j))) M := rfl
theorem sub_int (i j : Int) : binS .Sub (.int i) (.int j) M = .ok (.val (.int (i - j))) M := rfl
theorem mul_int {i j : Int} (h : MulOk i j) : binS .Mult (.int i) (.int j) M = .ok (.val (.int (i * j))) M := by
  show (if MulOk i j then vI (i * j) M else .stuck) = _
  rw [if_pos h]; rfl
theorem mod_int {i j : Int} (h : 0 < j) : binS .Mod (.int i) (.int j) M = .ok (.val (.int (i % j))) M := by
  show (if 0 < j then vI (i % j) M else .stuck) = _
  rw [if_pos h]; rfl
theorem div_int {i j : Int} (h : 0 < j ∧ j.natAbs.log2 < 9000) : binS .FloorDiv (.int i) (.int j) M = .ok (.val (.int (i / j))) M := by
  show (if 0 < j ∧ j.natAbs.log2 < 9000 then vI (i / j) M else .stuck) = _
  rw [if_pos h]; rfl
theorem add_str {a b : Str} (h : a.length + b.length ≤ sizeLine) : binS .Add (.str a) (.str b) M = .ok (.val (.str (a ++ b))) M := by
  show (if a.length + b.length ≤ sizeLine then R.ok (RV.val (D.str (a ++ b))) M else .stuck) = _
  rw [if_pos h]
theorem int_int (i : Int) : intS [.int i] M = .ok (.val (.int i)) M := rfl
theorem abs_int (i : Int) : absS [.int i] M = .ok (.val (.int (if i < 0 then -i else i))) M := rfl
theorem str_int {i : Int} (h : i.natAbs.log2 < 1920) : strS [.int i] M = .ok (.val (.str (toString i))) M := by
  show (if i.natAbs.log2 < 1920 then R.ok (RV.val (D.str (toString i))) M else .stuck) = _
  rw [if_pos h]
theorem tuple_lst (xs : List D) : tupleS [.lst xs] M = .ok (.val (.tup xs)) M := rfl
theorem tuple_tup (xs : List D) : tupleS [.tup xs] M = .ok (.val (.tup xs)) M := rfl
theorem list_lst (xs : List D) : listS [.lst xs] M = .ok (.own (.lst xs)) M := rfl
theorem list_tup (xs : List D) : listS [.tup xs] M = .ok (.own (.lst xs)) M := rfl
theorem bls_map (bs : List Bool) : blsOf (bs.map D.bl) = some bs := by
  induction bs with
  | nil => rfl
  | cons b bs ih => rw [List.map_cons, blsOf, ih]; rfl
theorem ints_map (bs : List Int) : intsOf (bs.map D.int) = some bs := by
  induction bs with
  | nil => rfl
  | cons b bs ih => rw [List.map_cons, intsOf, ih]; rfl
theorem strs_map (bs : List Str) : strsOf (bs.map D.str) = some bs := by
  induction bs with
  | nil => rfl
  | cons b bs ih => rw [List.map_cons, strsOf, ih]; rfl
theorem all_bls (bs : List Bool) : allS [.lst (bs.map D.bl)] M = .ok (.val (.bl (bs.all id))) M := by
  show (match (seqL M (.lst (bs.map D.bl))).bind blsOf with
    | some bs => vB (bs.all id) M
    | _ => .stuck) = _
  rw [show (seqL M (.lst (bs.map D.bl))).bind blsOf = some bs from bls_map bs]
  rfl
theorem o_lst (xs : List D) : MO.d (.lst xs) = .lst xs := rfl
theorem e_part {m : ME} {e : Sl} {i : Int} {M1 : Mem} (h : mD m e M = .ok (.int i) M1) : mPart m e M = .ok (some i) M1 := by
  unfold mPart
  rw [h]
  rfl
theorem ix_tup0 {a : D} {r : List D} : idxS (.tup (a :: r)) (.int 0) M = .ok (.val a) M := by
  have h : atI (a :: r) (0 : Int) = some a := by
    unfold atI ixN
    rw [if_pos (by decide), if_pos (by simp only [List.length_cons]; omega)]
    rfl
  show oV (atI (a :: r) 0) M = _
  rw [h]
  rfl
theorem ix_tup1 {a b : D} {r : List D} : idxS (.tup (a :: b :: r)) (.int 1) M = .ok (.val b) M := by
  have h : atI (a :: b :: r) (1 : Int) = some b := by
    unfold atI ixN
    rw [if_pos (by decide), if_pos (by simp only [List.length_cons]; omega)]
    rfl
  show oV (atI (a :: b :: r) 1) M = _
  rw [h]
  rfl
theorem ix_tup2 {a b c : D} {r : List D} : idxS (.tup (a :: b :: c :: r)) (.int 2) M = .ok (.val c) M := by
  have h : atI (a :: b :: c :: r) (2 : Int) = some c := by
    unfold atI ixN
    rw [if_pos (by decide), if_pos (by simp only [List.length_cons]; omega)]
    rfl
  show oV (atI (a :: b :: c :: r) 2) M = _
  rw [h]
  rfl
theorem ix_tup3 {a b c d : D} {r : List D} : idxS (.tup (a :: b :: c :: d :: r)) (.int 3) M = .ok (.val d) M := by
  have h : atI (a :: b :: c :: d :: r) (3 : Int) = some d := by
    unfold atI ixN
    rw [if_pos (by decide), if_pos (by simp only [List.length_cons]; omega)]
    rfl
  show oV (atI (a :: b :: c :: d :: r) 3) M = _
  rw [h]
  rfl
theorem ix_tup4 {a b c d e : D} {r : List D} : idxS (.tup (a :: b :: c :: d :: e :: r)) (.int 4) M = .ok (.val e) M := by
  have h : atI (a :: b :: c :: d :: e :: r) (4 : Int) = some e := by
    unfold atI ixN
    rw [if_pos (by decide), if_pos (by simp only [List.length_cons]; omega)]
    rfl
  show oV (atI (a :: b :: c :: d :: e :: r) 4) M = _
  rw [h]
  rfl
theorem ix_tup5 {a b c d e f : D} {r : List D} : idxS (.tup (a :: b :: c :: d :: e :: f :: r)) (.int 5) M = .ok (.val f) M := by
  have h : atI (a :: b :: c :: d :: e :: f :: r) (5 : Int) = some f := by
    unfold atI ixN
    rw [if_pos (by decide), if_pos (by simp only [List.length_cons]; omega)]
    rfl
  show oV (atI (a :: b :: c :: d :: e :: f :: r) 5) M = _
  rw [h]
  rfl
theorem ix_lst0 {a : D} {r : List D} : idxS (.lst (a :: r)) (.int 0) M = .ok (.val a) M := by
  have h : atI (a :: r) (0 : Int) = some a := by
    unfold atI ixN
    rw [if_pos (by decide), if_pos (by simp only [List.length_cons]; omega)]
    rfl
  show oV (atI (a :: r) 0) M = _
  rw [h]
  rfl
theorem ix_lst1 {a b : D} {r : List D} : idxS (.lst (a :: b :: r)) (.int 1) M = .ok (.val b) M := by
  have h : atI (a :: b :: r) (1 : Int) = some b := by
    unfold atI ixN
    rw [if_pos (by decide), if_pos (by simp only [List.length_cons]; omega)]
    rfl
  show oV (atI (a :: b :: r) 1) M = _
  rw [h]
  rfl
theorem ix_lst2 {a b c : D} {r : List D} : idxS (.lst (a :: b :: c :: r)) (.int 2) M = .ok (.val c) M := by
  have h : atI (a :: b :: c :: r) (2 : Int) = some c := by
    unfold atI ixN
    rw [if_pos (by decide), if_pos (by simp only [List.length_cons]; omega)]
    rfl
  show oV (atI (a :: b :: c :: r) 2) M = _
  rw [h]
  rfl
theorem ix_lst3 {a b c d : D} {r : List D} : idxS (.lst (a :: b :: c :: d :: r)) (.int 3) M = .ok (.val d) M := by
  have h : atI (a :: b :: c :: d :: r) (3 : Int) = some d := by
    unfold atI ixN
    rw [if_pos (by decide), if_pos (by simp only [List.length_cons]; omega)]
    rfl
  show oV (atI (a :: b :: c :: d :: r) 3) M = _
  rw [h]
  rfl
theorem ix_lst4 {a b c d e : D} {r : List D} : idxS (.lst (a :: b :: c :: d :: e :: r)) (.int 4) M = .ok (.val e) M := by
  have h : atI (a :: b :: c :: d :: e :: r) (4 : Int) = some e := by
    unfold atI ixN
    rw [if_pos (by decide), if_pos (by simp only [List.length_cons]; omega)]
    rfl
  show oV (atI (a :: b :: c :: d :: e :: r) 4) M = _
  rw [h]
  rfl
theorem ix_lst5 {a b c d e f : D} {r : List D} : idxS (.lst (a :: b :: c :: d :: e :: f :: r)) (.int 5) M = .ok (.val f) M := by
  have h : atI (a :: b :: c :: d :: e :: f :: r) (5 : Int) = some f := by
    unfold atI ixN
    rw [if_pos (by decide), if_pos (by simp only [List.length_cons]; omega)]
    rfl
  show oV (atI (a :: b :: c :: d :: e :: f :: r) 5) M = _
  rw [h]
  rfl
theorem ix_ctup0 {a : D} {r : List D} : idxS (.ctup (a :: r)) (.int 0) M = .ok (.val a) M := by
  have h : atI (a :: r) (0 : Int) = some a := by
    unfold atI ixN
    rw [if_pos (by decide), if_pos (by simp only [List.length_cons]; omega)]
    rfl
  show oV (atI (a :: r) 0) M = _
  rw [h]
  rfl
theorem ix_ctup1 {a b : D} {r : List D} : idxS (.ctup (a :: b :: r)) (.int 1) M = .ok (.val b) M := by
  have h : atI (a :: b :: r) (1 : Int) = some b := by
    unfold atI ixN
    rw [if_pos (by decide), if_pos (by simp only [List.length_cons]; omega)]
    rfl
  show oV (atI (a :: b :: r) 1) M = _
  rw [h]
  rfl
theorem ix_ctup2 {a b c : D} {r : List D} : idxS (.ctup (a :: b :: c :: r)) (.int 2) M = .ok (.val c) M := by
  have h : atI (a :: b :: c :: r) (2 : Int) = some c := by
    unfold atI ixN
    rw [if_pos (by decide), if_pos (by simp only [List.length_cons]; omega)]
    rfl
  show oV (atI (a :: b :: c :: r) 2) M = _
  rw [h]
  rfl
theorem ix_ctup3 {a b c d : D} {r : List D} : idxS (.ctup (a :: b :: c :: d :: r)) (.int 3) M = .ok (.val d) M := by
  have h : atI (a :: b :: c :: d :: r) (3 : Int) = some d := by
    unfold atI ixN
    rw [if_pos (by decide), if_pos (by simp only [List.length_cons]; omega)]
    rfl
  show oV (atI (a :: b :: c :: d :: r) 3) M = _
  rw [h]
  rfl
theorem ix_ctup4 {a b c d e : D} {r : List D} : idxS (.ctup (a :: b :: c :: d :: e :: r)) (.int 4) M = .ok (.val e) M := by
  have h : atI (a :: b :: c :: d :: e :: r) (4 : Int) = some e := by
    unfold atI ixN
    rw [if_pos (by decide), if_pos (by simp only [List.length_cons]; omega)]
    rfl
  show oV (atI (a :: b :: c :: d :: e :: r) 4) M = _
  rw [h]
  rfl
theorem ix_ctup5 {a b c d e f : D} {r : List D} : idxS (.ctup (a :: b :: c :: d :: e :: f :: r)) (.int 5) M = .ok (.val f) M := by
  have h : atI (a :: b :: c :: d :: e :: f :: r) (5 : Int) = some f := by
    unfold atI ixN
    rw [if_pos (by decide), if_pos (by simp only [List.length_cons]; omega)]
    rfl
  show oV (atI (a :: b :: c :: d :: e :: f :: r) 5) M = _
  rw [h]
  rfl
theorem any_str (x : Str) : anyI (.str x) M = .ok (x.cps.size, gStr x) M := rfl
theorem any_tup (xs : List D) : anyI (.tup xs) M = .ok (xs.length, gSeq (.tup xs)) M := rfl
theorem any_lst (xs : List D) : anyI (.lst xs) M = .ok (xs.length, gSeq (.lst xs)) M := rfl
theorem enu_tup (xs : List D) : enuS [.tup xs] M = .ok (xs.length, gEnu (.tup xs)) M := rfl
theorem enu_lst (xs : List D) : enuS [.lst xs] M = .ok (xs.length, gEnu (.lst xs)) M := rfl
theorem g_tup (xs : List D) (k : Nat) : gSeq (.tup xs) M k = some xs[k]? := rfl
theorem g_lst (xs : List D) (k : Nat) : gSeq (.lst xs) M k = some xs[k]? := rfl
/-- the signs of a text -/
def sgns (x : Str) : List D := x.cps.toList.map fun c => .str ⟨#[c]⟩
theorem g_str (x : Str) (k : Nat) : gStr x M k = some (sgns x)[k]? := by
  unfold gStr sgns
  rw [List.getElem?_map, ← Array.getElem?_toList]
theorem sgns_len (x : Str) : (sgns x).length = x.cps.size := by
  unfold sgns
  rw [List.length_map, Array.length_toList]
/-- the items with their places -/
def enus (xs : List D) : List D := xs.zipIdx.map fun p => .tup [.int (p.2 : Nat), p.1]
theorem g_etup (xs : List D) (k : Nat) : gEnu (.tup xs) M k = some (enus xs)[k]? := by
  show some (xs[k]?.map fun x => D.tup [.int (k : Nat), x]) = _
  unfold enus
  rw [List.getElem?_map, List.getElem?_zipIdx]
  cases xs[k]? <;> simp
theorem g_elst (xs : List D) (k : Nat) : gEnu (.lst xs) M k = some (enus xs)[k]? := g_etup (M := M) xs k
theorem enus_len (xs : List D) : (enus xs).length = xs.length := by
  unfold enus
  rw [List.length_map, List.length_zipIdx]
end
end Pc
set_option Elab.async false
set_option linter.all false
set_option maxRecDepth 100000
set_option maxHeartbeats 1000000
set_option autoImplicit false
/-! PcW: texts of numbers, names -/
namespace Pc
open PySem PySem.Spec PyProof.Rows L2 TL

/-- a number as a text -/
def numS (i : Int) : Str := Str.ofString (toString i)
theorem tl_numS (n : Nat) : tl (numS (n : Int)) = numL n := tl_num n
theorem tl_ofString (s : String) : tl (Str.ofString s) = s.toList.map Char.toNat := by
  rw [Str.ofString_eq_toList]
theorem tl_numS_neg (n : Nat) (h : 0 < n) : tl (numS (-(n : Int))) = 45 :: numL n := by
  unfold numS
  rw [toString_neg (by omega)]
  have e : (0 : Int) - (-(n : Int)) = (n : Int) := by omega
  rw [e, tl_ofString, String.toList_append, List.map_append]
  have := tl_num n
  rw [tl_ofString] at this
  rw [this]
  rfl
theorem numL_head : ∀ n : Nat, 0 < n → ∃ c r, numL n = c :: r ∧ 49 ≤ c ∧ c ≤ 57 := by
  intro n
  induction n using Nat.strongRecOn with
  | _ n ih =>
    intro hn
    by_cases h : n < 10
    · rw [numL_lt h]
      exact ⟨48 + n, [], rfl, by omega, by omega⟩
    · rw [numL_step (by omega)]
      obtain ⟨c, r, e, h1, h2⟩ := ih (n / 10) (by omega) (by omega)
      rw [e]
      exact ⟨c, r ++ [48 + n % 10], rfl, h1, h2⟩
theorem sOk_of {x : Str} (h : ∀ c ∈ tl x, c < 128) : sOk x := by
  unfold sOk PyData.strOk
  rw [Array.all_eq_true]
  intro i hi
  have : x.cps[i] ∈ tl x := by
    show x.cps[i] ∈ x.cps.toList
    exact Array.getElem_mem_toList hi
  have := h _ this
  simp
  omega
theorem numL_lt128 (n : Nat) : ∀ c ∈ numL n, c < 128 := fun c hc => by
  have := numL_digits n c hc
  omega
theorem sOk_lit (x : String) : sOk (Str.ofString x) := by
  unfold sOk PyData.strOk
  rw [Array.all_eq_true]
  intro i hi
  have h : (Str.ofString x).cps[i] ∈ tl (Str.ofString x) := by
    show (Str.ofString x).cps[i] ∈ (Str.ofString x).cps.toList
    exact Array.getElem_mem_toList hi
  rw [tl_ofString] at h
  obtain ⟨c, _, e⟩ := List.mem_map.mp h
  rw [← e]
  simp only [decide_eq_true_eq]
  have := c.valid
  have h2 : c.toNat = c.val.toNat := rfl
  rcases this with h | ⟨_, h⟩
  · rw [h2]
    have : c.val.toNat < 0xd800 := h
    omega
  · rw [h2]
    exact h
theorem sOk_numS (i : Int) : sOk (numS i) := sOk_lit _
theorem str_ext {x y : Str} (h : tl x = tl y) : x = y := by
  obtain ⟨⟨a⟩⟩ := x
  obtain ⟨⟨b⟩⟩ := y
  have : a = b := h
  rw [this]
theorem beq_tl {x y : Str} : (x == y) = decide (tl x = tl y) := by
  by_cases h : x = y
  · subst h; simp
  · rw [decide_eq_false fun z => h (str_ext z)]
    exact beq_false_of_ne h
/-- all signs of a text are among z's -/
def allIn (z x : Str) : Bool := (tl x).all fun c => decide (c ∈ tl z)
theorem sg_all {w z : Str} {M : Mem} {d : D} {r : Sl} (hl : w.length ≤ sizeLine) :
    lcL (gStr w) (gN 1) mYes (mA false (mCmp .In (mVar 1) (mVal (.str z)))) [1] (some d :: none :: r) w.cps.size 0 M [] = .ok (((tl w).map fun c => decide (c ∈ tl z)).map D.bl) M := by
  have e : w.cps.size = (sgns w).length := (sgns_len w).symm
  rw [e, lc_pure (sgns w) (fun _ => true) (fun x => match x with | .str s => (match tl s with | [c] => .bl (decide (c ∈ tl z)) | _ => .non) | _ => .non) (g_str w) (by rw [sgns_len]; exact hl)]
  · congr 1
    unfold sgns
    rw [List.filter_eq_self.mpr (fun _ _ => rfl), List.map_map, List.map_map]
    rfl
  · intro x hx
    unfold sgns at hx
    obtain ⟨c, hc, rfl⟩ := List.mem_map.mp hx
    exact ⟨[(1, .str ⟨#[c]⟩)], rfl, rfl, rfl, fun _ => rfl⟩
theorem all_id {l : List Nat} {p : Nat → Bool} : ((l.map p).all id) = l.all p := by rw [List.all_map]; rfl
theorem ix_str0 {w : Str} {c : Nat} {r : List Nat} {M : Mem} (hl : w.length ≤ sizeLine) (h : tl w = c :: r) : idxS (.str w) (.int 0) M = .ok (.val (.str ⟨#[c]⟩)) M := by
  show (if w.length ≤ sizeLine then oV ((atI w.cps.toList 0).map fun c => .str ⟨#[c]⟩) M else .stuck) = _
  rw [if_pos hl]
  have : w.cps.toList = c :: r := h
  rw [this]
  have h2 : atI (c :: r) (0 : Int) = some c := by
    unfold atI ixN
    rw [if_pos (by decide), if_pos (by simp only [List.length_cons]; omega)]
    rfl
  rw [h2]
  rfl
end Pc
set_option Elab.async false
set_option linter.all false
set_option maxRecDepth 100000
set_option maxHeartbeats 1000000
set_option autoImplicit false
/-! PcE3: methods, slices, membership -/
namespace Pc
open PySem PySem.Spec PyProof.Rows L2 TL
section
variable {M : Mem} {e : Sl} {m : ME} {ms : MDs}
def ptK2 (d : D) (M1 : Mem) : R (Option Int) := match d with
  | .int i => .ok (some i) M1
  | _ => .stuck
theorem ptK2_i (i : Int) : ptK2 (.int i) M = .ok (some i) M := rfl
theorem e_partE : mPart m e M = (mD m e M).bnd ptK2 := rfl
def starK (ms : MDs) (e : Sl) (d : D) (M1 : Mem) : R (List D) := match seqA M1 d with
  | some xs => (ms e M1).bind fun ds M2 => .ok (xs ++ ds) M2
  | none => .stuck
theorem starK_lst (xs : List D) : starK ms e (.lst xs) M = (ms e M).bnd fun ds M2 => .ok (xs ++ ds) M2 := rfl
theorem starK_tup (xs : List D) : starK ms e (.tup xs) M = (ms e M).bnd fun ds M2 => .ok (xs ++ ds) M2 := rfl
theorem e_star : mStar m ms e M = (mD m e M).bnd (starK ms e) := rfl
def meK (alts : Alts) (own : OwnM) (name : Str) (ms : MDs) (env : Sl) (d : D) (M1 : Mem) : R RV :=
  match tyD M1 d with
  | some T => (match alts.lookup T with
    | some f => (ms env M1).bind fun ds M2 => f d ds M2
    | none => .stuck)
  | none => match insOf M1 d with
    | some (c, ns, _) => (match own c with
      | some (n, φ) => if name ∈ ns then .stuck else (ms env M1).bind fun ds M2 => if (d :: ds).length = n then φ (d :: ds) M2 else .stuck
      | none => .stuck)
    | none => .stuck
theorem e_meth (alts : Alts) (own : OwnM) (name : Str) : mMeth alts own name m ms e M = (mD m e M).bnd (meK alts own name ms e) := rfl
theorem ma_join : methAlts "join" = [("str", joinS)] := by kernel_rfl
theorem ma_split : methAlts "split" = [("str", splitS)] := by kernel_rfl
theorem ma_append : methAlts "append" = [("list", appendS)] := by kernel_rfl
theorem ma_pop : methAlts "pop" = [("list", popS)] := by kernel_rfl
theorem ma_index : methAlts "index" = [("list", indexS)] := by kernel_rfl
theorem meK_str (f : D → List D → Mem → R RV) (own : OwnM) (nm : Str) (z : Str) : meK [("str", f)] own nm ms e (.str z) M = (ms e M).bnd fun ds M2 => f (.str z) ds M2 := rfl
theorem meK_lst (f : D → List D → Mem → R RV) (own : OwnM) (nm : Str) (xs : List D) : meK [("list", f)] own nm ms e (.lst xs) M = (ms e M).bnd fun ds M2 => f (.lst xs) ds M2 := rfl
theorem meK_ref (f : D → List D → Mem → R RV) (own : OwnM) (nm : Str) (i : Nat) (xs : List D) (h : M[i]? = some (.lst xs)) : meK [("list", f)] own nm ms e (.ref i) M = (ms e M).bind fun ds M2 => f (.ref i) ds M2 := by
  unfold meK
  have : tyD M (.ref i) = some "list" := by unfold tyD; dsimp only; rw [h]
  rw [this]
  rfl
theorem split_ok {a b : Str} (h : (b.length == 0) = false) (hl : a.length + 2 ≤ sizeLine) : splitS (.str a) [.str b] M = .ok (.own (.lst ((Txt.split a b).map D.str))) M := by
  show (if (b.length == 0) = false ∧ a.length + 2 ≤ sizeLine then R.ok (RV.own (.lst ((Txt.split a b).map D.str))) M else .stuck) = _
  rw [if_pos ⟨h, hl⟩]
theorem join_lst {a : Str} {ys : List Str} (h : (ys.map fun y : Str => y.length).sum + ys.length * a.length ≤ 16777216) : joinS (.str a) [.lst (ys.map D.str)] M = .ok (.val (.str (Txt.join a ys))) M := by
  show (match (seqA M (.lst (ys.map D.str))).bind strsOf with
    | some ys => if (ys.map fun y : Str => y.length).sum + ys.length * a.length ≤ 16777216 then R.ok (RV.val (D.str (Txt.join a ys))) M else .stuck
    | none => .stuck) = _
  rw [show (seqA M (.lst (ys.map D.str))).bind strsOf = some ys from strs_map ys]
  show (if (ys.map fun y : Str => y.length).sum + ys.length * a.length ≤ 16777216 then R.ok (RV.val (D.str (Txt.join a ys))) M else .stuck) = _
  rw [if_pos h]
theorem sl_str {z : Str} (lo hi : Option Int) (h : z.length ≤ sizeLine) : slS (.str z) lo hi M = .ok (.val (.str (cutS z lo hi))) M := by
  show (if z.length ≤ sizeLine then R.ok (RV.val (D.str (cutS z lo hi))) M else .stuck) = _
  rw [if_pos h]
theorem sl_tup (xs : List D) (lo hi : Option Int) : slS (.tup xs) lo hi M = .ok (.val (.tup (cutL xs lo hi))) M := rfl
theorem sl_lst (xs : List D) (lo hi : Option Int) : slS (.lst xs) lo hi M = .ok (.own (.lst (cutL xs lo hi))) M := rfl
theorem tl_cut (z : Str) (lo hi : Option Int) : tl (cutS z lo hi) = ((tl z).drop (HT.sIx z.length 0 lo)).take (HT.sIx z.length z.length hi - HT.sIx z.length 0 lo) := rfl
theorem sIx1 {n : Nat} (d : Nat) (h : 1 ≤ n) : HT.sIx n d (some 1) = 1 := by
  rw [show (some 1 : Option Int) = some ((1 : Nat) : Int) from rfl, HT.sIx_nat]
  omega
/-- z[:1], z[1:] -/
theorem cut_first {z : Str} {c : Nat} {r : List Nat} (h : tl z = c :: r) : cutS z none (some 1) = ⟨#[c]⟩ := by
  apply str_ext
  rw [tl_cut, h, HT.sIx_none, sIx1 _ (by rw [len_tl, h]; simp)]
  rfl
theorem cut_rest {z : Str} {c : Nat} {r : List Nat} (h : tl z = c :: r) : tl (cutS z (some 1) none) = r := by
  have hl : z.length = r.length + 1 := by rw [len_tl, h]; rfl
  rw [tl_cut, h, HT.sIx_none, sIx1 _ (by omega), hl]
  simp
theorem sz0 : (0 ≤ sizeLine) = True := by rw [sizeLine_eq]; simp
theorem sz1 : (1 ≤ sizeLine) = True := by rw [sizeLine_eq]; simp
theorem sz2 : (2 ≤ sizeLine) = True := by rw [sizeLine_eq]; simp
theorem sz3 : (3 ≤ sizeLine) = True := by rw [sizeLine_eq]; simp
theorem sz4 : (4 ≤ sizeLine) = True := by rw [sizeLine_eq]; simp
theorem sz5 : (5 ≤ sizeLine) = True := by rw [sizeLine_eq]; simp
theorem sz6 : (6 ≤ sizeLine) = True := by rw [sizeLine_eq]; simp
theorem sz7 : (7 ≤ sizeLine) = True := by rw [sizeLine_eq]; simp
theorem sz8 : (8 ≤ sizeLine) = True := by rw [sizeLine_eq]; simp
theorem sz9 : (9 ≤ sizeLine) = True := by rw [sizeLine_eq]; simp
end
end Pc
set_option Elab.async false
set_option linter.all false
set_option maxRecDepth 100000
set_option maxHeartbeats 1000000
set_option autoImplicit false
/-! PcWp: what a reading comes to, asked backwards -/
namespace Pc
open PySem PySem.Spec PyProof.Rows L2
abbrev XP := Str → List Str → List D → Mem → Prop
/-- no exception is let -/
def NoE : XP := fun _ _ _ _ => False
def Wp {α : Type} (r : R α) (Q : α → Mem → Prop) (X : XP) (_u : Ub Q := .mk) : Prop := match r with
  | .ok a M => Q a M
  | .exc c ns ds M => X c ns ds M
  | .stuck => False
def Ws (s : RS) (nx : Sl → Mem → Prop) (rt : RV → Mem → Prop) (bk ct : Sl → Mem → Prop) (X : XP) (_u : Ub (nx, rt, bk, ct) := .mk) : Prop := match s with
  | .nx e M => nx e M
  | .rt rv M => rt rv M
  | .bk e M => bk e M
  | .ct e M => ct e M
  | .exc c ns ds _ M => X c ns ds M
  | .stuck => False
def NoS : Sl → Mem → Prop := fun _ _ => False
section
variable {α β : Type} {M : Mem} {e : Sl} {X : XP} {Q : α → Mem → Prop} {Q' : β → Mem → Prop} {QV : RV → Mem → Prop} {nx bk ct : Sl → Mem → Prop} {rt : RV → Mem → Prop}
theorem w_ok (a : α) : Wp (.ok a M) Q X = Q a M := rfl
theorem w_exc (c : Str) (ns : List Str) (ds : List D) : Wp (.exc c ns ds M) Q X = X c ns ds M := rfl
theorem w_stuck : Wp .stuck Q X = False := rfl
theorem w_bind (r : R α) (f : α → Mem → R β) : Wp (r.bind f) Q' X = Wp r (fun a M => Wp (f a M) Q' X) X := by cases r <;> rfl
theorem w_bnd (r : R α) (f : α → Mem → R β) : Wp (r.bnd f) Q' X = Wp r (fun a M => Wp (f a M) Q' X) X := by cases r <;> rfl
theorem ws_tos (r : R α) (f : α → Mem → RS) : Ws (r.tos e f) nx rt bk ct X = Wp r (fun a M => Ws (f a M) nx rt bk ct X) X := by cases r <;> rfl
theorem ws_sq (s : RS) (f : MS) : Ws (s.sq f) nx rt bk ct X = Ws s (fun e M => Ws (f e M) nx rt bk ct X) rt bk ct X := by cases s <;> rfl
theorem w_map (r : R α) (f : α → β) : Wp (r.map f) Q' X = Wp r (fun a M => Q' (f a) M) X := by cases r <;> rfl
theorem w_noX (r : R α) : Wp (noX r) Q X = Wp r Q NoE := by cases r <;> rfl
def alK (mu : Bool) (rv : RV) (M : Mem) : R D := alD mu (.ok rv M)
def gcK (n : Nat) (rv : RV) (M : Mem) : R RV := gcR n (.ok rv M)
def gcE (n : Nat) (c : Str) (ns : List Str) (ds : List D) (M : Mem) : R RV := gcR n (.exc c ns ds M)
theorem alK_val (mu : Bool) (d : D) : alK mu (.val d) M = .ok d M := by cases mu <;> rfl
theorem alK_f (o : MO) : alK false (.own o) M = .ok o.d M := rfl
theorem alK_t (o : MO) : alK true (.own o) M = .ok (.ref M.length) (M ++ [o]) := rfl
theorem w_al {Q : D → Mem → Prop} (mu : Bool) (r : R RV) : Wp (alD mu r) Q X = Wp r (fun a M => Wp (alK mu a M) Q X) X := by cases r <;> rfl
theorem w_run (s : RS) : Wp (runS s) QV X = Ws s (fun _ M => QV (.val .non) M) QV NoS NoS X := by cases s <;> rfl
theorem w_gc (n : Nat) (r : R RV) : Wp (gcR n r) QV X = Wp r (fun a M => Wp (gcK n a M) QV X) (fun c ns ds M => Wp (gcE n c ns ds M) QV X) := by cases r <;> rfl
theorem w_gcN (n : Nat) (r : R RV) : Wp (gcR n r) QV NoE = Wp r (fun a M => Wp (gcK n a M) QV NoE) NoE := by
  cases r with
  | ok a M => rfl
  | stuck => rfl
  | exc c ns ds M =>
    unfold gcR
    dsimp only
    split <;> rfl
theorem w_ite {c : Prop} [Decidable c] (a b : R α) : Wp (if c then a else b) Q X = if c then Wp a Q X else Wp b Q X := by split <;> rfl
theorem ws_nx : Ws (.nx e M) nx rt bk ct X = nx e M := rfl
theorem ws_rt (rv : RV) : Ws (.rt rv M) nx rt bk ct X = rt rv M := rfl
theorem ws_bk : Ws (.bk e M) nx rt bk ct X = bk e M := rfl
theorem ws_ct : Ws (.ct e M) nx rt bk ct X = ct e M := rfl
theorem ws_exc (c : Str) (ns : List Str) (ds : List D) : Ws (.exc c ns ds e M) nx rt bk ct X = X c ns ds M := rfl
theorem ws_toS (r : R α) (f : α → Mem → RS) : Ws (r.toS e f) nx rt bk ct X = Wp r (fun a M => Ws (f a M) nx rt bk ct X) X := by cases r <;> rfl
theorem ws_seq (s : RS) (f : MS) : Ws (s.seq f) nx rt bk ct X = Ws s (fun e M => Ws (f e M) nx rt bk ct X) rt bk ct X := by cases s <;> rfl
theorem ws_ite {c : Prop} [Decidable c] (a b : RS) : Ws (if c then a else b) nx rt bk ct X = if c then Ws a nx rt bk ct X else Ws b nx rt bk ct X := by split <;> rfl
theorem Wp.mono {r : R α} {Q2 : α → Mem → Prop} {X2 : XP} (h : Wp r Q X) (hq : ∀ a M, Q a M → Q2 a M) (hx : ∀ c ns ds M, X c ns ds M → X2 c ns ds M) : Wp r Q2 X2 := by
  cases r with
  | ok a M => exact hq _ _ h
  | exc c ns ds M => exact hx _ _ _ _ h
  | stuck => exact h
/-- no exception at all will do wherever some are let -/
theorem Wp.imp {r : R α} {Q2 : α → Mem → Prop} {X2 : XP} (h : Wp r Q NoE) (hq : ∀ a M, Q a M → Q2 a M) : Wp r Q2 X2 := h.mono hq fun _ _ _ _ z => z.elim
theorem Wp.ok {r : R α} (h : Wp r Q NoE) : ∃ a M, r = .ok a M ∧ Q a M := by
  cases r with
  | ok a M => exact ⟨a, M, rfl, h⟩
  | exc c ns ds M => exact h.elim
  | stuck => exact h.elim
theorem wp_of_eq {r : R α} {a : α} (h : r = .ok a M) (hq : Q a M) : Wp r Q X := by rw [h]; exact hq
theorem Ws.mono {s : RS} {nx2 bk2 ct2 : Sl → Mem → Prop} {rt2 : RV → Mem → Prop} {X2 : XP} (h : Ws s nx rt bk ct X) (h1 : ∀ e M, nx e M → nx2 e M) (h2 : ∀ v M, rt v M → rt2 v M) (h3 : ∀ e M, bk e M → bk2 e M) (h4 : ∀ e M, ct e M → ct2 e M)
    (h5 : ∀ c ns ds M, X c ns ds M → X2 c ns ds M) : Ws s nx2 rt2 bk2 ct2 X2 := by
  cases s with
  | nx e M => exact h1 _ _ h
  | rt rv M => exact h2 _ _ h
  | bk e M => exact h3 _ _ h
  | ct e M => exact h4 _ _ h
  | exc c ns ds e M => exact h5 _ _ _ _ h
  | stuck => exact h
/-! ### loops -/
theorem ws_forL {g : GI} {tg : MG} {body : MS} {N : Nat} {I : Nat → Sl → Mem → Prop}
    (step : ∀ k e M, k < N → I k e M → ∃ d bs, g M k = some (some d) ∧ tg d = some bs ∧ Ws (body (putE e bs) M) (I (k + 1)) rt nx (I (k + 1)) X)
    (stop : ∀ e M, I N e M → g M N = some none ∧ nx e M) : ∀ (f k : Nat) (e : Sl) (M : Mem), f + k = N → I k e M → Ws (forL g tg body f k e M) nx rt bk ct X
  | 0, k, e, M, hk, h => by
    have : k = N := by omega
    subst this
    obtain ⟨h1, h2⟩ := stop e M h
    unfold forL
    rw [h1]
    exact h2
  | f + 1, k, e, M, hk, h => by
    obtain ⟨d, bs, h1, h2, h3⟩ := step k e M (by omega) h
    unfold forL
    rw [h1]
    dsimp only
    rw [h2]
    dsimp only
    cases q : body (putE e bs) M with
    | nx e2 M2 => rw [q] at h3; exact ws_forL step stop f (k + 1) e2 M2 (by omega) h3
    | ct e2 M2 => rw [q] at h3; exact ws_forL step stop f (k + 1) e2 M2 (by omega) h3
    | bk e2 M2 => rw [q] at h3; exact h3
    | rt rv M2 => rw [q] at h3; exact h3
    | exc c ns ds e2 M2 => rw [q] at h3; exact h3
    | stuck => rw [q] at h3; exact h3
theorem ws_while {t : MT} {body : MS} {I : Nat → Sl → Mem → Prop}
    (step : ∀ k e M, I k e M → Wp (t e M) (fun b M1 => if b then ∃ j, k = j + 1 ∧ Ws (body e M1) (I j) rt nx (I j) X else nx e M1) X) :
    ∀ (f k : Nat) (e : Sl) (M : Mem), k < f → I k e M → Ws (whileL t body f e M) nx rt bk ct X
  | 0, k, e, M, hk, _ => by omega
  | f + 1, k, e, M, hk, h => by
    have s := step k e M h
    unfold whileL
    rw [ws_toS]
    refine s.mono (fun b M1 q => ?_) fun _ _ _ _ z => z
    cases b with
    | false => exact q
    | true =>
      obtain ⟨j, rfl, q⟩ := q
      rw [if_pos rfl]
      cases z : body e M1 with
      | nx e2 M2 => rw [z] at q; exact ws_while step f j e2 M2 (by omega) q
      | ct e2 M2 => rw [z] at q; exact ws_while step f j e2 M2 (by omega) q
      | bk e2 M2 => rw [z] at q; exact q
      | rt rv M2 => rw [z] at q; exact q
      | exc c ns ds e2 M2 => rw [z] at q; exact q
      | stuck => rw [z] at q; exact q
theorem w_lcL {g : GI} {tg : MG} {t : MT} {el : MD} {vs : List Nat} {env : Sl} {N : Nat} {I : Nat → List D → Mem → Prop} {Q : List D → Mem → Prop}
    (step : ∀ k acc M, k < N → I k acc M → ∃ d bs, g M k = some (some d) ∧ tg d = some bs ∧ (bs.all fun b => vs.contains b.1) = true ∧
      Wp (t (putE (wipeS env vs) bs) M) (fun b M1 => if b then Wp (el (putE (wipeS env vs) bs) M1) (fun x M2 => acc.length < sizeLine ∧ I (k + 1) (acc ++ [x]) M2) NoE else I (k + 1) acc M1) NoE)
    (stop : ∀ acc M, I N acc M → g M N = some none ∧ Q acc M) : ∀ (f k : Nat) (acc : List D) (M : Mem), f + k = N → I k acc M → Wp (lcL g tg t el vs env f k M acc) Q X
  | 0, k, acc, M, hk, h => by
    have : k = N := by omega
    subst this
    obtain ⟨h1, h2⟩ := stop acc M h
    unfold lcL
    rw [h1]
    exact h2
  | f + 1, k, acc, M, hk, h => by
    obtain ⟨d, bs, h1, h2, h3, h4⟩ := step k acc M (by omega) h
    unfold lcL
    rw [h1]
    dsimp only
    rw [h2]
    dsimp only
    rw [if_pos h3, w_bind, w_noX]
    refine h4.mono (fun b M1 q => ?_) fun _ _ _ _ z => z.elim
    cases b with
    | false => exact w_lcL step stop f (k + 1) acc M1 (by omega) q
    | true =>
      rw [if_pos rfl, w_bind, w_noX]
      refine Wp.mono q (fun x M2 ⟨q1, q2⟩ => ?_) fun _ _ _ _ z => z.elim
      rw [if_pos q1]
      exact w_lcL step stop f (k + 1) (acc ++ [x]) M2 (by omega) q2
/-- a list comprehension that changes nothing, over typed items -/
theorem lc_typed {τ : Type} {g : GI} {tg : MG} {t : MT} {el : MD} {vs : List Nat} {env : Sl} {i : Nat} (ys : List τ) (inj f : τ → D) (p : τ → Bool) (htg : tg = gN i) (hvs : vs = [i]) (hg : ∀ k, g M k = some ((ys.map inj)[k]?)) (hl : ys.length ≤ sizeLine)
    (hb : ∀ y ∈ ys, t ((wipeS env vs).set i (some (inj y))) M = .ok (p y) M ∧ (p y = true → el ((wipeS env vs).set i (some (inj y))) M = .ok (f y) M)) :
    lcL g tg t el vs env ys.length 0 M [] = .ok ((ys.filter p).map f) M := by
  subst htg hvs
  have key : ∀ (n k : Nat) (acc : List D), k + n = ys.length → acc.length ≤ k → lcL g (gN i) t el [i] env n k M acc = .ok (acc ++ ((ys.drop k).filter p).map f) M := by
    intro n
    induction n with
    | zero =>
      intro k acc hk ha
      unfold lcL
      rw [hg k, List.getElem?_eq_none (by rw [List.length_map]; omega), List.drop_eq_nil_of_le (by omega)]
      simp
    | succ n ih =>
      intro k acc hk ha
      have hlt : k < ys.length := by omega
      unfold lcL
      rw [hg k, List.getElem?_map, List.getElem?_eq_getElem hlt]
      obtain ⟨h3, h4⟩ := hb ys[k] (List.getElem_mem hlt)
      have e1 : putE (wipeS env [i]) [(i, inj ys[k])] = (wipeS env [i]).set i (some (inj ys[k])) := rfl
      simp only [Option.map_some, gN, e1, h3, noX_ok, bind_ok]
      rw [if_pos (by simp), List.drop_eq_getElem_cons hlt, List.filter_cons]
      cases hp : p ys[k] with
      | false =>
        simp only [Bool.false_eq_true, if_false]
        exact ih (k + 1) acc (by omega) (by omega)
      | true =>
        simp only [if_true, h4 hp, noX_ok, bind_ok]
        rw [if_pos (by omega), ih (k + 1) (acc ++ [f ys[k]]) (by omega) (by rw [List.length_append]; simp; omega)]
        simp
  rw [key ys.length 0 [] (by omega) (Nat.le_refl _)]
  simp
theorem lc_map {τ : Type} {g : GI} {tg : MG} {el : MD} {vs : List Nat} {env : Sl} {i : Nat} (ys : List τ) (inj f : τ → D) (htg : tg = gN i) (hvs : vs = [i]) (hg : ∀ k, g M k = some ((ys.map inj)[k]?)) (hl : ys.length ≤ sizeLine)
    (hb : ∀ y ∈ ys, el ((wipeS env vs).set i (some (inj y))) M = .ok (f y) M) : lcL g tg mYes el vs env ys.length 0 M [] = .ok (ys.map f) M := by
  rw [lc_typed ys inj f (fun _ => true) htg hvs hg hl fun y hy => ⟨rfl, fun _ => hb y hy⟩, List.filter_eq_self.mpr fun _ _ => rfl]
end
/-! ### closed memory: what a call leaves -/
def Clo (M : Mem) : Prop := M.all (clO M.length) = true
theorem gc_val {M L : Mem} {d : D} (h : Clo M) (hd : clD M.length d = true) : gcR M.length (.ok (.val d) (M ++ L)) = .ok (.val d) M := by
  unfold gcR
  dsimp only
  rw [List.take_left, if_pos (show M.all (clO M.length) = true from h), if_pos hd]
theorem gc_ref' {M L : Mem} {o : MO} (h : Clo M) (ho : clO M.length o = true) : gcR M.length (.ok (.val (.ref M.length)) (M ++ o :: L)) = .ok (.own o) M := by
  unfold gcR
  dsimp only
  rw [List.take_left, if_pos (show M.all (clO M.length) = true from h), if_neg (by show ¬ decide (M.length < M.length) = true; simp)]
  simp only [List.getElem?_append_right (Nat.le_refl _), Nat.sub_self, List.getElem?_cons_zero]
  rw [if_pos ⟨Nat.le_refl _, ho⟩]
theorem gc_ownL {M L : Mem} {o : MO} (h : Clo M) (ho : clO M.length o = true) : gcR M.length (.ok (.own o) (M ++ L)) = .ok (.own o) M := by
  unfold gcR
  dsimp only
  rw [List.take_left, if_pos (show M.all (clO M.length) = true from h), if_pos ho]
mutual
theorem clD_mono {n m : Nat} (h : n ≤ m) : ∀ d : D, clD n d = true → clD m d = true
  | .ref i, q => by
    have q' : decide (i < n) = true := q
    exact decide_eq_true (Nat.lt_of_lt_of_le (of_decide_eq_true q') h)
  | .tup xs, q => clL_mono h xs q
  | .ctup xs, q => clL_mono h xs q
  | .lst xs, q => clL_mono h xs q
  | .obj _ _ ds, q => clL_mono h ds q
  | .exo _ _ ds, q => clL_mono h ds q
  | .cau _ _ _ _ ds, q => clL_mono h ds q
  | .dic _ ds, q => clL_mono h ds q
  | .dit _ ds, q => clL_mono h ds q
  | .non, _ => rfl
  | .bl _, _ => rfl
  | .int _, _ => rfl
  | .str _, _ => rfl
  | .scr _, _ => rfl
  | .fn _, _ => rfl
theorem clL_mono {n m : Nat} (h : n ≤ m) : ∀ ds : List D, clL n ds = true → clL m ds = true
  | [], _ => rfl
  | d :: ds, q => by
    have q' : (clD n d && clL n ds) = true := q
    rw [Bool.and_eq_true] at q'
    show (clD m d && clL m ds) = true
    rw [clD_mono h d q'.1, clL_mono h ds q'.2]
    rfl
end
theorem clO_mono {n m : Nat} (h : n ≤ m) : ∀ o : MO, clO n o = true → clO m o = true
  | .lst xs, q => clL_mono h xs q
  | .dk _ ds, q => clL_mono h ds q
  | .dt _ ds, q => clL_mono h ds q
  | .ins _ _ ds, q => clL_mono h ds q
theorem Clo.add {M : Mem} {o : MO} (h : Clo M) (ho : clO (M.length + 1) o = true) : Clo (M ++ [o]) := by
  unfold Clo at h ⊢
  rw [List.all_append, List.length_append, List.length_singleton, Bool.and_eq_true]
  refine ⟨List.all_eq_true.mpr fun x hx => clO_mono (Nat.le_succ _) x (List.all_eq_true.mp h x hx), ?_⟩
  rw [List.all_cons, ho]
  rfl
theorem Clo.set {M : Mem} {o : MO} {i : Nat} (h : Clo M) (ho : clO M.length o = true) : Clo (M.set i o) := by
  unfold Clo at h ⊢
  rw [List.length_set]
  refine List.all_eq_true.mpr fun x hx => ?_
  rcases List.mem_or_eq_of_mem_set hx with hx | hx
  · exact List.all_eq_true.mp h x hx
  · rw [hx]; exact ho
theorem gcK_val {M L : Mem} {d : D} (h : Clo M) (hd : clD M.length d = true) : gcK M.length (.val d) (M ++ L) = .ok (.val d) M := gc_val h hd
theorem gcK_ref {M L : Mem} {o : MO} (h : Clo M) (ho : clO M.length o = true) : gcK M.length (.val (.ref M.length)) (M ++ o :: L) = .ok (.own o) M := gc_ref' h ho
theorem gcK_own {M L : Mem} {o : MO} (h : Clo M) (ho : clO M.length o = true) : gcK M.length (.own o) (M ++ L) = .ok (.own o) M := gc_ownL h ho
theorem clL_strs (n : Nat) : ∀ ys : List Str, clL n (ys.map D.str) = true
  | [] => rfl
  | y :: ys => by rw [List.map_cons]; show (true && clL n (ys.map D.str)) = true; rw [clL_strs n ys]; rfl
theorem clL_ints (n : Nat) : ∀ ys : List Int, clL n (ys.map D.int) = true
  | [] => rfl
  | y :: ys => by rw [List.map_cons]; show (true && clL n (ys.map D.int)) = true; rw [clL_ints n ys]; rfl
theorem clL_of {τ : Type} {n : Nat} {f : τ → D} (h : ∀ y, clD n (f y) = true) : ∀ ys : List τ, clL n (ys.map f) = true
  | [] => rfl
  | y :: ys => by rw [List.map_cons]; show (clD n (f y) && clL n (ys.map f)) = true; rw [h y, clL_of h ys]; rfl
end Pc
set_option Elab.async false
set_option linter.all false
set_option maxRecDepth 100000
set_option maxHeartbeats 1000000
set_option autoImplicit false
/-! PcE4: more of how the readings compute -/
namespace Pc
open PySem PySem.Spec PyProof.Rows L2 TL
section
variable {M R0 L : Mem} {e : Sl} {m m1 m2 : ME} {ms : MDs} {own : OwnM} {its : Str → Option Str} {i : Nat} {d : D} {xs ys : List D}
theorem e_lenO : mLenO own ms e M = (ms e M).bnd (lenO own) := rfl
theorem e_ianyO : mIAnyO its m e M = (mD m e M).bnd (anyIO its) := rfl
theorem e_izip : mIZip ms e M = (ms e M).bnd zipS := rfl
theorem e_dnew : mDNew false e M = .ok (.own (.dk [] [])) M := rfl
theorem lenO_str {z : Str} (h : z.length ≤ sizeLine) : lenO own [.str z] M = .ok (.val (.int z.length)) M := len_str h
theorem lenO_tup : lenO own [.tup xs] M = .ok (.val (.int xs.length)) M := rfl
theorem lenO_ctup : lenO own [.ctup xs] M = .ok (.val (.int xs.length)) M := rfl
theorem lenO_lst : lenO own [.lst xs] M = .ok (.val (.int xs.length)) M := rfl
theorem lenO_scr {ns : List Int} : lenO own [.scr ns] M = .ok (.val (.int ns.length)) M := rfl
theorem lenO_ref (h : M[i]? = some (.lst xs)) : lenO own [.ref i] M = .ok (.val (.int xs.length)) M := by
  unfold lenO
  simp only [insOf, h, lenS, seqA, seqL]
  rfl
theorem lenO_obj {c : Str} {ns : List Str} {ds : List D} {φ : List D → Mem → R RV} (h : own c = some (1, φ)) : lenO own [.obj c ns ds] M = (φ [.obj c ns ds] M).bnd lenK := by
  unfold lenO
  simp only [insOf, h]
  rfl
theorem lenK_n {n : Nat} (h : n < 2 ^ 63) : lenK (.val (.int (n : Nat))) M = .ok (.val (.int (n : Nat))) M := by
  unfold lenK
  dsimp only
  rw [if_pos ⟨by omega, by omega⟩]
theorem anyO_str (x : Str) : anyIO its (.str x) M = .ok (x.cps.size, gStr x) M := rfl
theorem anyO_tup : anyIO its (.tup xs) M = .ok (xs.length, gSeq (.tup xs)) M := rfl
theorem anyO_ctup : anyIO its (.ctup xs) M = .ok (xs.length, gSeq (.ctup xs)) M := rfl
theorem anyO_lst : anyIO its (.lst xs) M = .ok (xs.length, gSeq (.lst xs)) M := rfl
theorem anyO_ref (h : M[i]? = some (.lst xs)) : anyIO its (.ref i) M = .ok (xs.length, gSeq (.ref i)) M := by
  show anyI (.ref i) M = _
  unfold anyI
  simp only [seqA, seqL, h]
theorem anyO_obj {c f : Str} {ns : List Str} {ds : List D} (h : its c = some f) (h2 : lookD ns ds f = some (.tup xs)) : anyIO its (.obj c ns ds) M = .ok (xs.length, gSeq (.tup xs)) M := by
  unfold anyIO
  simp only [h, h2]
theorem g_ref (h : M[i]? = some (.lst xs)) (k : Nat) : gSeq (.ref i) M k = some xs[k]? := by
  unfold gSeq
  simp only [seqA, seqL, h]
theorem g_ctup (k : Nat) : gSeq (.ctup xs) M k = some xs[k]? := rfl
theorem listO_lst : listO its own [.lst xs] M = .ok (.own (.lst xs)) M := rfl
theorem listO_tup : listO its own [.tup xs] M = .ok (.own (.lst xs)) M := rfl
theorem listO_ref (h : M[i]? = some (.lst xs)) : listO its own [.ref i] M = .ok (.own (.lst xs)) M := by
  unfold listO listS
  simp only [seqA, seqL, h]
theorem listO_obj {c f : Str} {ns : List Str} {ds : List D} {φ : List D → Mem → R RV} {n : Nat} {M2 : Mem} (h : its c = some f) (ho : own c = some (1, φ)) (h2 : lookD ns ds f = some (.tup xs)) (hl : xs.length ≤ sizeLine) (hφ : φ [.obj c ns ds] M = .ok (.val (.int (n : Nat))) M2) (hn : n ≤ sizeLine) :
    listO its own [.obj c ns ds] M = .ok (.own (.lst xs)) M2 := by
  have hs : sizeLine < 2 ^ 63 := by rw [sizeLine_eq]; decide
  unfold listO
  simp only [h, ho, h2]
  have hk : listK xs (.val (.int (n : Nat))) M2 = .ok (.own (.lst xs)) M2 := by
    unfold listK
    dsimp only
    rw [if_pos ⟨by omega, by omega, by omega⟩]
  rw [if_pos ⟨by first | rfl | trivial, hl⟩, hφ, noX_ok, bind_ok, hk]
theorem tuple_ref (h : M[i]? = some (.lst xs)) : tupleS [.ref i] M = .ok (.val (.tup xs)) M := by
  unfold tupleS
  simp only [seqL, h]
theorem add_lst (h : xs.length + ys.length ≤ sizeLine) : binS .Add (.lst xs) (.lst ys) M = .ok (.own (.lst (xs ++ ys))) M := by
  show catL (.lst xs) (.lst ys) M = _
  unfold catL
  simp only [seqL]
  rw [if_pos h]
theorem add_tup (h : xs.length + ys.length ≤ sizeLine) : binS .Add (.tup xs) (.tup ys) M = .ok (.val (.tup (xs ++ ys))) M := by
  show addS (.tup xs) (.tup ys) M = _
  unfold addS
  dsimp only
  rw [if_pos h]
theorem add_ref_lst (h1 : M[i]? = some (.lst xs)) (h : xs.length + ys.length ≤ sizeLine) : binS .Add (.ref i) (.lst ys) M = .ok (.own (.lst (xs ++ ys))) M := by
  show catL (.ref i) (.lst ys) M = _
  unfold catL
  simp only [seqL, h1]
  rw [if_pos h]
theorem sl_ref (lo hi : Option Int) (h : M[i]? = some (.lst xs)) : slS (.ref i) lo hi M = .ok (.own (.lst (cutL xs lo hi))) M := by
  unfold slS
  simp only [seqL, h]
theorem app_ref (h : M[i]? = some (.lst xs)) (hl : xs.length < sizeLine) : appendS (.ref i) [d] M = .ok (.val .non) (M.set i (.lst (xs ++ [d]))) := by
  unfold appendS
  simp only [h]
  rw [if_pos hl]
  rfl
theorem ma_extend : methAlts "extend" = [("list", extendS)] := by kernel_rfl
theorem max_lst (a : Int) (l : List Int) : maxS [.lst (.int a :: l.map D.int)] M = .ok (.val (.int (maxF a l))) M := by
  show (match (seqL M (.lst (.int a :: l.map D.int))).bind intsOf with
    | some (a :: r) => vI (maxF a r) M
    | _ => .stuck) = _
  have : intsOf (.int a :: l.map D.int) = some (a :: l) := ints_map (a :: l)
  rw [show (seqL M (.lst (.int a :: l.map D.int))).bind intsOf = some (a :: l) from this]
  rfl
theorem max_two (i j : Int) : maxS [.int i, .int j] M = .ok (.val (.int (if j > i then j else i))) M := rfl
theorem min_two (i j : Int) : minS [.int i, .int j] M = .ok (.val (.int (if j < i then j else i))) M := rfl
theorem e_pn : mPairs [] e M = .ok [] M := rfl
theorem e_pc {a b : ME} {r : List (ME × ME)} : mPairs ((a, b) :: r) e M = (mD a e M).bnd fun k M1 => (mD b e M1).bnd fun v M2 => (mPairs r e M2).bnd fun ps M3 => .ok ((k, v) :: ps) M3 := rfl
def dkK (ps : List (D × D)) (M1 : Mem) : R RV := match keyPs ps with
  | some (ks, ds) => if ps.length ≤ 15 then .ok (.own (.dk (mergeD [] [] ks ds).1 (mergeD [] [] ks ds).2)) M1 else .stuck
  | none => .stuck
theorem e_dict {l : List (ME × ME)} : mDict l e M = (mPairs l e M).bnd dkK := rfl
theorem o_dk (ks : List L2.Key) (ds : List D) : MO.d (.dk ks ds) = .dic ks ds := rfl
/-! ### the memory -/
theorem at_app (j : Nat) : (R0 ++ L)[R0.length + j]? = L[j]? := by rw [List.getElem?_append_right (Nat.le_add_right _ _), Nat.add_sub_cancel_left]
theorem at_app0 : (R0 ++ L)[R0.length]? = L[0]? := at_app 0
theorem set_app (j : Nat) (o : MO) : (R0 ++ L).set (R0.length + j) o = R0 ++ L.set j o := by rw [List.set_append_right _ _ (Nat.le_add_right _ _), Nat.add_sub_cancel_left]
theorem set_app0 (o : MO) : (R0 ++ L).set R0.length o = R0 ++ L.set 0 o := set_app 0 o
end
/-! ### equal things -/
mutual
/-- data of at most so many floors -/
def shD : Nat → D → Bool
  | _, .non => true
  | _, .bl _ => true
  | _, .int _ => true
  | _, .str x => PyData.strOk x
  | n + 1, .tup xs => shL n xs
  | n + 1, .ctup xs => shL n xs
  | n + 1, .lst xs => shL n xs
  | _, _ => false
def shL : Nat → List D → Bool
  | _, [] => true
  | n, d :: ds => shD n d && shL n ds
end
mutual
theorem shD_py : ∀ (n : Nat) (d : D), shD n d = true → ∃ p, d.py0 = some p ∧ p.canLay0 = true ∧ p.depth ≤ n
  | n, .non, _ => ⟨.none, rfl, by simp [PyData.canLay0], by simp [PyData.depth]⟩
  | n, .bl b, _ => ⟨.bool b, rfl, by simp [PyData.canLay0], by simp [PyData.depth]⟩
  | n, .int i, _ => ⟨.int i, rfl, by simp [PyData.canLay0], by simp [PyData.depth]⟩
  | n, .str x, h => ⟨.str x, rfl, by unfold shD at h; simpa [PyData.canLay0] using h, by simp [PyData.depth]⟩
  | n + 1, .tup xs, h => by
    obtain ⟨l, h1, h2, h3⟩ := shL_py n xs (by unfold shD at h; exact h)
    exact ⟨.tuple l, by rw [D.py0, h1], by simpa [PyData.canLay0] using h2, by simp [PyData.depth]; omega⟩
  | n + 1, .ctup xs, h => by
    obtain ⟨l, h1, h2, h3⟩ := shL_py n xs (by unfold shD at h; exact h)
    exact ⟨.tuple l, by rw [D.py0, h1], by simpa [PyData.canLay0] using h2, by simp [PyData.depth]; omega⟩
  | n + 1, .lst xs, h => by
    obtain ⟨l, h1, h2, h3⟩ := shL_py n xs (by unfold shD at h; exact h)
    exact ⟨.list l, by rw [D.py0, h1], by simpa [PyData.canLay0] using h2, by simp [PyData.depth]; omega⟩
  | 0, .tup _, h => by unfold shD at h; cases h
  | 0, .ctup _, h => by unfold shD at h; cases h
  | 0, .lst _, h => by unfold shD at h; cases h
  | n, .ref _, h => by unfold shD at h; cases h
  | n, .obj _ _ _, h => by unfold shD at h; cases h
  | n, .dic _ _, h => by unfold shD at h; cases h
  | n, .dit _ _, h => by unfold shD at h; cases h
  | n, .scr _, h => by unfold shD at h; cases h
  | n, .fn _, h => by unfold shD at h; cases h
  | n, .exo _ _ _, h => by unfold shD at h; cases h
  | n, .cau _ _ _ _ _, h => by unfold shD at h; cases h
theorem shL_py : ∀ (n : Nat) (ds : List D), shL n ds = true → ∃ l, pyL ds = some l ∧ PyData.canLayAll0 l = true ∧ PyData.depthAll l ≤ n
  | n, [], _ => ⟨[], rfl, by simp [PyData.canLayAll0], by simp [PyData.depthAll]⟩
  | n, d :: ds, h => by
    unfold shL at h
    rw [Bool.and_eq_true] at h
    obtain ⟨p, a1, a2, a3⟩ := shD_py n d h.1
    obtain ⟨l, b1, b2, b3⟩ := shL_py n ds h.2
    exact ⟨p :: l, by rw [pyL, a1, b1], by simp [PyData.canLayAll0, a2, b2], by simp [PyData.depthAll]; omega⟩
end
theorem shaped_of {p : PyData} {n : Nat} (h : p.canLay0 = true) (hd : p.depth ≤ n) (hn : n ≤ 64) : SeqAt.shaped p = true := by
  unfold SeqAt.shaped
  rw [h, decide_eq_true (Nat.le_trans hd hn)]
  rfl
/-- read as data: by value, or a list in the memory -/
theorem py_of {d : D} {M : Mem} {p : PyData} (h : d.py0 = some p) : d.py M = some p := by
  unfold D.py
  cases d <;> first | exact h | (unfold D.py0 at h; cases h)
section
variable {M : Mem} {d d2 : D} {n : Nat}
theorem eqO_self (h : shD 64 d = true) : eqO d d M = some true := by
  obtain ⟨p, h1, h2, h3⟩ := shD_py 64 d h
  unfold eqO
  rw [py_of h1]
  dsimp only
  rw [if_pos ⟨shaped_of h2 h3 (Nat.le_refl _), shaped_of h2 h3 (Nat.le_refl _)⟩, PySem.SeqAt.eqv_refl p h2]
theorem eq_self' (h : shD 64 d = true) : cmpS .Eq d d M = .ok (.val (.bl true)) M := by
  show rB (eqO d d M) M = _
  rw [eqO_self h]; rfl
theorem ne_self (h : shD 64 d = true) : cmpS .NotEq d d M = .ok (.val (.bl false)) M := by
  show rB ((eqO d d M).map not) M = _
  rw [eqO_self h]; rfl
theorem shL_of {τ : Type} {f : τ → D} (h : ∀ y, shD n (f y) = true) : ∀ ys : List τ, shL n (ys.map f) = true
  | [] => by rw [List.map_nil, shL]
  | y :: ys => by rw [List.map_cons, shL, h y, shL_of h ys]; rfl
theorem shL_mem {τ : Type} {f : τ → D} : ∀ ys : List τ, (∀ y ∈ ys, shD n (f y) = true) → shL n (ys.map f) = true
  | [], _ => by rw [List.map_nil, shL]
  | y :: ys, h => by rw [List.map_cons, shL, h y List.mem_cons_self, shL_mem ys fun z hz => h z (List.mem_cons_of_mem _ hz)]; rfl
/-- a list of any data, looked through for one -/
theorem inO_list {xs : List D} {s : D} (hs : seqL M s = some xs) (hn : ∀ x, d ≠ .str x ∨ True) (h : shD 63 d = true) (hx : shL 63 xs = true) (hd : ∀ y ys, s ≠ .tup ys ∧ s ≠ .ctup ys ∧ s ≠ .str y) :
    ∃ (p : PyData) (l : List PyData), d.py0 = some p ∧ pyL xs = some l ∧ inO d s M = some (l.any fun z => PyData.eqv z p) := by
  obtain ⟨p, h1, h2, h3⟩ := shD_py 63 d h
  obtain ⟨l, g1, g2, g3⟩ := shL_py 63 xs hx
  refine ⟨p, l, h1, g1, ?_⟩
  have sl : SeqAt.shaped (.list l) = true := shaped_of (n := 64) (by simpa [PyData.canLay0] using g2) (by simp [PyData.depth]; omega) (Nat.le_refl _)
  have sp : SeqAt.shaped p = true := shaped_of h2 h3 (by decide)
  unfold inO
  cases s with
  | lst ys =>
    cases d <;> (simp only [hs, py_of h1, g1]; rw [if_pos ⟨sp, sl⟩])
  | ref i =>
    cases d <;> (simp only [hs, py_of h1, g1]; rw [if_pos ⟨sp, sl⟩])
  | _ => first | (exact absurd rfl (hd "" _).1) | (exact absurd rfl (hd "" _).2.1) | (exact absurd rfl (hd _ []).2.2) | (cases hs)
end
section
variable {M : Mem} {i : Nat} {a : Str} {ys : List Str}
theorem pyL_str (ys : List Str) : pyL (ys.map D.str) = some (ys.map PyData.str) := by
  induction ys with
  | nil => rfl
  | cons y ys ih => rw [List.map_cons, pyL, ih]; rfl
theorem any_strs (a : Str) (ys : List Str) : ((ys.map PyData.str).any fun z => PyData.eqv z (.str a)) = ys.any fun y => y == a := by
  rw [List.any_map]
  congr 1
theorem inO_lst (ha : sOk a) (hy : ∀ y ∈ ys, sOk y) : inO (.str a) (.lst (ys.map D.str)) M = some (ys.any fun y => y == a) := by
  obtain ⟨p, l, h1, h2, h3⟩ := inO_list (M := M) (d := .str a) (xs := ys.map D.str) (s := .lst (ys.map D.str)) rfl (fun _ => .inr trivial) (by unfold shD; exact ha) (shL_mem ys fun y h => by unfold shD; exact hy y h) (fun _ _ => by simp)
  rw [pyL_str] at h2
  cases h1
  cases h2
  rw [h3, any_strs]
theorem inO_ref (hi : M[i]? = some (.lst (ys.map D.str))) (ha : sOk a) (hy : ∀ y ∈ ys, sOk y) : inO (.str a) (.ref i) M = some (ys.any fun y => y == a) := by
  obtain ⟨p, l, h1, h2, h3⟩ := inO_list (M := M) (d := .str a) (xs := ys.map D.str) (s := .ref i) (by unfold seqL; simp only [hi]) (fun _ => .inr trivial) (by unfold shD; exact ha) (shL_mem ys fun y h => by unfold shD; exact hy y h) (fun _ _ => by simp)
  rw [pyL_str] at h2
  cases h1
  cases h2
  rw [h3, any_strs]
theorem in_lst (ha : sOk a) (hy : ∀ y ∈ ys, sOk y) : cmpS .In (.str a) (.lst (ys.map D.str)) M = .ok (.val (.bl (ys.any fun y => y == a))) M := by
  show rB (inO (.str a) (.lst (ys.map D.str)) M) M = _
  rw [inO_lst ha hy]; rfl
theorem notin_lst (ha : sOk a) (hy : ∀ y ∈ ys, sOk y) : cmpS .NotIn (.str a) (.lst (ys.map D.str)) M = .ok (.val (.bl (!(ys.any fun y => y == a)))) M := by
  show rB ((inO (.str a) (.lst (ys.map D.str)) M).map not) M = _
  rw [inO_lst ha hy]; rfl
theorem in_ref (hi : M[i]? = some (.lst (ys.map D.str))) (ha : sOk a) (hy : ∀ y ∈ ys, sOk y) : cmpS .In (.str a) (.ref i) M = .ok (.val (.bl (ys.any fun y => y == a))) M := by
  show rB (inO (.str a) (.ref i) M) M = _
  rw [inO_ref hi ha hy]; rfl
theorem notin_ref (hi : M[i]? = some (.lst (ys.map D.str))) (ha : sOk a) (hy : ∀ y ∈ ys, sOk y) : cmpS .NotIn (.str a) (.ref i) M = .ok (.val (.bl (!(ys.any fun y => y == a)))) M := by
  show rB ((inO (.str a) (.ref i) M).map not) M = _
  rw [inO_ref hi ha hy]; rfl
/-- the items of a text's tuple -/
theorem inO_strs (a : Str) (ys : List Str) (M : Mem) : inO (.str a) (.ctup (ys.map D.str)) M = some (ys.any fun y => y == a) := by
  have h1 : (ys.map D.str).all flatD = true := by rw [List.all_map]; exact List.all_eq_true.mpr fun _ _ => rfl
  show (if flatD (.str a) = true ∧ (ys.map D.str).all flatD = true then (match (D.str a).py0, pyL (ys.map D.str) with
    | some p, some l => some (l.any fun z => PyData.eqv z p)
    | _, _ => none) else none) = _
  rw [if_pos ⟨rfl, h1⟩, pyL_str]
  show some ((ys.map PyData.str).any fun z => PyData.eqv z (.str a)) = _
  rw [any_strs]
theorem notin_ctup (a : Str) (ys : List Str) (M : Mem) : cmpS .NotIn (.str a) (.ctup (ys.map D.str)) M = .ok (.val (.bl (!(ys.any fun y => y == a)))) M := by
  show rB ((inO (.str a) (.ctup (ys.map D.str)) M).map not) M = _
  rw [inO_strs]; rfl
theorem in_ctup (a : Str) (ys : List Str) (M : Mem) : cmpS .In (.str a) (.ctup (ys.map D.str)) M = .ok (.val (.bl (ys.any fun y => y == a))) M := by
  show rB (inO (.str a) (.ctup (ys.map D.str)) M) M = _
  rw [inO_strs]; rfl
theorem inT_strs (a : Str) (ys : List Str) (M : Mem) : inO (.str a) (.tup (ys.map D.str)) M = some (ys.any fun y => y == a) := inO_strs a ys M
theorem notin_tup (a : Str) (ys : List Str) (M : Mem) : cmpS .NotIn (.str a) (.tup (ys.map D.str)) M = .ok (.val (.bl (!(ys.any fun y => y == a)))) M := by
  show rB ((inO (.str a) (.tup (ys.map D.str)) M).map not) M = _
  rw [inT_strs]; rfl
theorem in_tup (a : Str) (ys : List Str) (M : Mem) : cmpS .In (.str a) (.tup (ys.map D.str)) M = .ok (.val (.bl (ys.any fun y => y == a))) M := by
  show rB (inO (.str a) (.tup (ys.map D.str)) M) M = _
  rw [inT_strs]; rfl
end
end Pc
set_option Elab.async false
set_option linter.all false
set_option maxRecDepth 100000
set_option maxHeartbeats 1000000
set_option autoImplicit false
/-! PcE5: sequences alike, instances made, exceptions raised -/
namespace Pc
open PySem PySem.Spec PyProof.Rows L2 TL
/-- a list or a tuple, by value or in the memory -/
structure Sq (M : Mem) (d : D) (xs : List D) : Prop where
  any : ∀ its, anyIO its d M = .ok (xs.length, gSeq d) M
  g : ∀ k, gSeq d M k = some xs[k]?
  enu : enuS [d] M = .ok (xs.length, gEnu d) M
  ge : ∀ k, gEnu d M k = some (enus xs)[k]?
  len : ∀ own, lenO own [d] M = .ok (.val (.int xs.length)) M
  sl : ∀ lo hi, ∃ rv, slS d lo hi M = .ok rv M ∧ (rv.d = .lst (cutL xs lo hi) ∨ rv.d = .tup (cutL xs lo hi))
  tup : tupleS [d] M = .ok (.val (.tup xs)) M
  lst : ∀ its own, listO its own [d] M = .ok (.own (.lst xs)) M
  idx : ∀ i, idxS d (.int i) M = oV (atI xs i) M
section
variable {M R0 L : Mem} {i : Nat} {xs : List D}
theorem Sq.of_tup : Sq M (.tup xs) xs := ⟨fun _ => rfl, fun _ => rfl, rfl, fun k => g_etup xs k, fun _ => rfl, fun lo hi => ⟨_, rfl, .inr rfl⟩, rfl, fun _ _ => rfl, fun _ => rfl⟩
theorem Sq.of_lst : Sq M (.lst xs) xs := ⟨fun _ => rfl, fun _ => rfl, rfl, fun k => g_elst xs k, fun _ => rfl, fun lo hi => ⟨_, rfl, .inl rfl⟩, rfl, fun _ _ => rfl, fun _ => rfl⟩
theorem Sq.of_ref (h : M[i]? = some (.lst xs)) : Sq M (.ref i) xs where
  any := fun _ => anyO_ref h
  g := fun k => g_ref h k
  enu := by unfold enuS; simp only [seqA, seqL, h]
  ge := fun k => by
    unfold gEnu
    simp only [seqA, seqL, h]
    exact g_etup (M := M) xs k
  len := fun _ => lenO_ref h
  sl := fun lo hi => ⟨_, sl_ref lo hi h, .inl rfl⟩
  tup := tuple_ref h
  lst := fun _ _ => listO_ref h
  idx := fun j => by unfold idxS; simp only [seqA, seqL, h]
theorem enu_at {n j : Nat} (h : j < xs.length) (k : Nat) : (enus xs)[j]? = some (.tup [.int (j : Nat), xs[j]]) := by
  unfold enus
  rw [List.getElem?_map, List.getElem?_zipIdx, List.getElem?_eq_getElem h]
  simp
/-! ### instances -/
def mkK (mu : Bool) (c : Str) (n : Nat) (φ : List D → Mem → R RV) (ds : List D) (M1 : Mem) : R RV :=
  if ds.length + 1 = n then (φ (.ref M1.length :: ds) (M1 ++ [.ins c [] []])).bind fun rv M2 => match rv with
    | .val .non => if mu then .ok (.val (.ref M1.length)) M2 else made M1.length M2
    | _ => .stuck
  else .stuck
theorem e_make {mu : Bool} {c : Str} {n : Nat} {φ : List D → Mem → R RV} {ms : MDs} {e : Sl} : mMake mu c n φ ms e M = (ms e M).bnd (mkK mu c n φ) := rfl
theorem made_new {o : MO} (h : Clo M) (ho : clO M.length o = true) : made M.length (M ++ [o]) = .ok (.own o) M := by
  unfold made
  rw [List.getElem?_append_right (Nat.le_refl _), Nat.sub_self, List.getElem?_cons_zero]
  dsimp only
  rw [List.take_left, show M.all (clO M.length) = true from h, ho]
  rfl
theorem setF_new {ok : Str → Str → Bool} {f c : Str} {ns : List Str} {ds : List D} {v : D} (h : ok c f = true) (hn : ns.length < 1000) : setF ok f (.ref M.length) v (M ++ [.ins c ns ds]) = some (M ++ [.ins c (putN ns ds f v).1 (putN ns ds f v).2]) := by
  unfold setF
  dsimp only
  rw [List.getElem?_append_right (Nat.le_refl _), Nat.sub_self, List.getElem?_cons_zero]
  dsimp only
  rw [if_pos ⟨h, hn⟩, List.set_append_right _ _ (Nat.le_refl _), Nat.sub_self]
  rfl
theorem attrX_new {ok okx : Str → Str → Bool} {f c : Str} {ns : List Str} {ds : List D} {d : D} (h : ok c f = true) (hd : lookD ns ds f = some d) : attrX ok okx f (.ref M.length) (M ++ [.ins c ns ds]) = .ok (.val d) (M ++ [.ins c ns ds]) := by
  show attrS ok f (.ref M.length) (M ++ [.ins c ns ds]) = _
  unfold attrS insOf
  dsimp only
  rw [List.getElem?_append_right (Nat.le_refl _), Nat.sub_self, List.getElem?_cons_zero]
  dsimp only
  rw [if_pos h, hd]
  rfl
theorem attrX_obj {ok okx : Str → Str → Bool} {f c : Str} {ns : List Str} {ds : List D} {d : D} (h : ok c f = true) (hd : lookD ns ds f = some d) : attrX ok okx f (.obj c ns ds) M = .ok (.val d) M := by
  show attrS ok f (.obj c ns ds) M = _
  unfold attrS insOf
  dsimp only
  rw [if_pos h, hd]
  rfl
/-! ### exceptions -/
def rsK (c : Str) (fm : Bool) (fl : Option Str) (e : Sl) (ds : List D) (M1 : Mem) : RS := match exoF fm fl ds with
  | some p => .exc c p.1 p.2 e M1
  | none => .stuck
theorem e_raise {c : Str} {fm : Bool} {fl : Option Str} {ms : MDs} {e : Sl} : mRaise c fm fl ms e M = (ms e M).tos e (rsK c fm fl e) := rfl
theorem rsK_int {c f : Str} {fm : Bool} {e : Sl} {i : Int} (h : fmD (.int i) = true) : rsK c fm (some f) e [.int i] M = .exc c [f] [.int i] e M := by
  unfold rsK exoF
  cases fm
  · rfl
  · simp only [h, if_true]
theorem fm_small {n : Nat} (h : n < 2 ^ 64) : fmD (.int (n : Nat)) = true := by
  have hl : n.log2 < 1920 := by
    by_cases h0 : n = 0
    · rw [h0]; decide
    · exact Nat.lt_trans ((Nat.log2_lt h0).mpr h) (by decide)
  unfold fmD
  simp only [Int.natAbs_natCast]
  exact decide_eq_true hl
theorem rsK_none {c : Str} {fm : Bool} {e : Sl} : rsK c fm none e [] M = .exc c [] [] e M := rfl
theorem gcE_same {c : Str} {ns : List Str} {ds : List D} : gcE M.length c ns ds M = .exc c ns ds M := by
  unfold gcE gcR
  dsimp only
  rw [List.take_length]
  split <;> rfl
theorem gcE_cat {c : Str} {ns : List Str} {ds : List D} (h : Clo M) (hd : clL M.length ds = true) : gcE M.length c ns ds (M ++ L) = .exc c ns ds M := by
  unfold gcE gcR
  dsimp only
  rw [List.take_left, show M.all (clO M.length) = true from h, hd]
  rfl
theorem gcK_same {d : D} : gcK M.length (.val d) M = .ok (.val d) M := gc_same d M
theorem gcK_own0 {o : MO} : gcK M.length (.own o) M = .ok (.own o) M := gc_own' o M
end
/-- strings of a cut, looked through -/
theorem in_cut {M : Mem} {d : D} {a : Str} {ys : List Str} (hd : d = .lst (ys.map D.str) ∨ d = .tup (ys.map D.str)) (ha : sOk a) (hy : ∀ y ∈ ys, sOk y) : cmpS .In (.str a) d M = .ok (.val (.bl (ys.any fun y => y == a))) M := by
  rcases hd with rfl | rfl
  · exact in_lst ha hy
  · exact in_tup a ys M
theorem cutL_take {α : Type} (xs : List α) (n : Nat) : cutL xs none (some (n : Int)) = xs.take n := by
  unfold cutL
  rw [HT.sIx_none, HT.sIx_nat, List.drop_zero, Nat.sub_zero]
  by_cases h : n ≤ xs.length
  · rw [Nat.min_eq_left h]
  · rw [Nat.min_eq_right (by omega), List.take_length, List.take_of_length_le (by omega)]
theorem wp_eq {α : Type} {r : R α} {a : α} {M : Mem} (h : Wp r (fun b M' => b = a ∧ M' = M) NoE) : r = .ok a M := by
  cases r with
  | ok b M' => obtain ⟨rfl, rfl⟩ := h; rfl
  | exc c ns ds M' => exact h.elim
  | stuck => exact h.elim
end Pc

set_option Elab.async false
set_option linter.all false
set_option maxRecDepth 100000
set_option maxHeartbeats 0
set_option autoImplicit false
namespace Pc
open PySem PySem.Spec PyProof.Rows L2
/-! the tables -/
def top (i : Nat) : Stmt := PySem.Challenge.pw_partlymet_k01_contracts_read.main.body.getD i (.Pass ⟨0, 0, 0, 0⟩)
def clsBody : Stmt → List Stmt
  | .ClassDef _ _ _ b _ _ _ _ _ _ _ => b
  | _ => []
def cl (i j : Nat) : Stmt := (clsBody (top i)).getD j (.Pass ⟨0, 0, 0, 0⟩)
def f_lines_of : FDef := ⟨("lines_of", none), "lines_of", "lines_of", ["text"], ["text"], [], defArgs (top 14), defBody (top 14), defScope (top 14)⟩
def f_is_name : FDef := ⟨("is_name", none), "is_name", "is_name", ["word"], ["word", "sign"], [], defArgs (top 15), defBody (top 15), defScope (top 15)⟩
def f_is_count : FDef := ⟨("is_count", none), "is_count", "is_count", ["word"], ["word", "sign"], [], defArgs (top 16), defBody (top 16), defScope (top 16)⟩
def f_number_of : FDef := ⟨("number_of", none), "number_of", "number_of", ["word", "least", "most"], ["word", "least", "most", "digits", "number"], [], defArgs (top 17), defBody (top 17), defScope (top 17)⟩
def f_spot_of : FDef := ⟨("spot_of", none), "spot_of", "spot_of", ["pointers", "word"], ["pointers", "word", "name", "rest", "at", "index", "pointer", "number"], [], defArgs (top 18), defBody (top 18), defScope (top 18)⟩
def f_place_of : FDef := ⟨("place_of", none), "place_of", "place_of", ["pointers", "word"], ["pointers", "word", "spot"], [], defArgs (top 24), defBody (top 24), defScope (top 24)⟩
def f_remainder_fact : FDef := ⟨("remainder_fact", none), "remainder_fact", "remainder_fact", ["kind", "places", "words"], ["kind", "places", "words", "modulus", "rest"], [], defArgs (top 25), defBody (top 25), defScope (top 25)⟩
def f_pair_fact : FDef := ⟨("pair_fact", none), "pair_fact", "pair_fact", ["pointers", "words"], ["pointers", "words", "places", "distance"], [], defArgs (top 26), defBody (top 26), defScope (top 26)⟩
def f_apart_fact : FDef := ⟨("apart_fact", none), "apart_fact", "apart_fact", ["pointers", "words"], ["pointers", "words", "one", "other", "sizes", "word"], [], defArgs (top 27), defBody (top 27), defScope (top 27)⟩
def f_fact_of : FDef := ⟨("fact_of", none), "fact_of", "fact_of", ["pointers", "words"], ["pointers", "words"], [], defArgs (top 28), defBody (top 28), defScope (top 28)⟩
def f_far_of : FDef := ⟨("far_of", none), "far_of", "far_of", ["fact"], ["fact"], [], defArgs (top 30), defBody (top 30), defScope (top 30)⟩
def f_modulus_of : FDef := ⟨("modulus_of", none), "modulus_of", "modulus_of", ["fact"], ["fact"], [], defArgs (top 31), defBody (top 31), defScope (top 31)⟩
def f_greatest : FDef := ⟨("greatest", none), "greatest", "greatest", ["numbers", "least"], ["numbers", "least", "number"], [], defArgs (top 32), defBody (top 32), defScope (top 32)⟩
def f_check_pointers : FDef := ⟨("check_pointers", none), "check_pointers", "check_pointers", ["pointers"], ["pointers", "at", "name"], [], defArgs (top 41), defBody (top 41), defScope (top 41)⟩
def f_read_facts : FDef := ⟨("read_facts", none), "read_facts", "read_facts", ["pointers", "lines"], ["pointers", "lines", "found", "at", "line", "fact"], ["found"], defArgs (top 43), defBody (top 43), defScope (top 43)⟩
def f__law_begun_pen : FDef := ⟨("_law_begun_pen", none), "_law_begun_pen", "_law_begun_pen", ["script"], ["script"], [], defArgs (top 47), defBody (top 47), defScope (top 47)⟩
def f__law_draw : FDef := ⟨("_law_draw", none), "_law_draw", "_law_draw", ["pen", "span"], ["pen", "span", "digit", "turn", "cell", "mixed"], ["pen"], defArgs (top 48), defBody (top 48), defScope (top 48)⟩
def f__law_pick : FDef := ⟨("_law_pick", none), "_law_pick", "_law_pick", ["pen", "options"], ["pen", "options"], [], defArgs (top 49), defBody (top 49), defScope (top 49)⟩
def f__law_spot_text : FDef := ⟨("_law_spot_text", none), "_law_spot_text", "_law_spot_text", ["name", "number"], ["name", "number"], [], defArgs (top 50), defBody (top 50), defScope (top 50)⟩
def f__law_fact_text : FDef := ⟨("_law_fact_text", none), "_law_fact_text", "_law_fact_text", ["fact"], ["fact", "one", "two"], [], defArgs (top 51), defBody (top 51), defScope (top 51)⟩
def f__law_facts_text : FDef := ⟨("_law_facts_text", none), "_law_facts_text", "_law_facts_text", ["facts"], ["facts", "fact"], [], defArgs (top 52), defBody (top 52), defScope (top 52)⟩
def f__law_far_of : FDef := ⟨("_law_far_of", none), "_law_far_of", "_law_far_of", ["fact"], ["fact"], [], defArgs (top 53), defBody (top 53), defScope (top 53)⟩
def f__law_modulus : FDef := ⟨("_law_modulus", none), "_law_modulus", "_law_modulus", ["facts"], ["facts", "found", "fact"], [], defArgs (top 54), defBody (top 54), defScope (top 54)⟩
def f__law_barred : FDef := ⟨("_law_barred", none), "_law_barred", "_law_barred", [], ["words"], [], defArgs (top 55), defBody (top 55), defScope (top 55)⟩
def f__law_any_names : FDef := ⟨("_law_any_names", none), "_law_any_names", "_law_any_names", ["pen", "many"], ["pen", "many", "signs", "found", "k", "name", "at"], ["found"], defArgs (top 56), defBody (top 56), defScope (top 56)⟩
def f__law_wide_fact : FDef := ⟨("_law_wide_fact", none), "_law_wide_fact", "_law_wide_fact", ["pen", "pointers"], ["pen", "pointers", "way", "one", "m", "others", "name", "two", "k", "a", "e", "number"], [], defArgs (top 57), defBody (top 57), defScope (top 57)⟩
def f__law_wide_facts : FDef := ⟨("_law_wide_facts", none), "_law_wide_facts", "_law_wide_facts", ["pen", "pointers", "many"], ["pen", "pointers", "many", "found", "k", "fact"], ["found"], defArgs (top 58), defBody (top 58), defScope (top 58)⟩
def f__law_number : FDef := ⟨("_law_number", none), "_law_number", "_law_number", ["told"], ["told"], [], defArgs (top 59), defBody (top 59), defScope (top 59)⟩
def f__law_pairs_of : FDef := ⟨("_law_pairs_of", none), "_law_pairs_of", "_law_pairs_of", ["contract"], ["contract", "found", "one", "other"], ["found"], defArgs (top 60), defBody (top 60), defScope (top 60)⟩
def f_law : FDef := ⟨("law", none), "law", "law", ["script"], ["script", "pen", "turn", "pointers", "facts", "lines", "text", "listed", "fact", "contract", "line", "other", "one"], ["listed", "pen"], defArgs (top 61), defBody (top 61), defScope (top 61)⟩
def f_Contract_init : FDef := ⟨("Contract", some "__init__"), "__init__", "Contract.__init__", ["self", "pointers", "text"], ["self", "pointers", "text", "fact"], [], defArgs (cl 44 0), defBody (cl 44 0), defScope (cl 44 0)⟩
def f_Contract_len : FDef := ⟨("Contract", some "__len__"), "__len__", "Contract.__len__", ["self"], ["self"], [], defArgs (cl 44 4), defBody (cl 44 4), defScope (cl 44 4)⟩
def f_Contract_iter : FDef := ⟨("Contract", some "__iter__"), "__iter__", "Contract.__iter__", ["self"], ["self"], [], defArgs (cl 44 5), defBody (cl 44 5), defScope (cl 44 5)⟩
def T0 : Tab := [f_lines_of, f_is_name, f_is_count, f_number_of, f_spot_of, f_place_of, f_remainder_fact, f_pair_fact, f_apart_fact, f_fact_of, f_far_of, f_modulus_of, f_greatest, f_check_pointers, f_read_facts, f__law_begun_pen, f__law_draw, f__law_pick, f__law_spot_text, f__law_fact_text, f__law_facts_text, f__law_far_of, f__law_modulus, f__law_barred, f__law_any_names, f__law_wide_fact, f__law_wide_facts, f__law_number, f__law_pairs_of, f_law]
def T1 : Tab := [f_Contract_init, f_Contract_len, f_Contract_iter]
def T : Tab := T0 ++ T1
def fnA0 : List (Str × Nat) := [("lines_of", 1), ("is_name", 1), ("is_count", 1), ("number_of", 3), ("spot_of", 2), ("place_of", 2), ("remainder_fact", 3), ("pair_fact", 2), ("apart_fact", 2), ("fact_of", 2), ("far_of", 1), ("modulus_of", 1), ("greatest", 2), ("check_pointers", 1), ("read_facts", 2), ("_law_begun_pen", 1), ("_law_draw", 2), ("_law_pick", 2), ("_law_spot_text", 2), ("_law_fact_text", 1), ("_law_facts_text", 1), ("_law_far_of", 1), ("_law_modulus", 1), ("_law_barred", 0), ("_law_any_names", 2), ("_law_wide_fact", 2), ("_law_wide_facts", 3), ("_law_number", 1), ("_law_pairs_of", 1), ("law", 1)]
def clA0 : List (Str × (Bool × Nat)) := [("Contract", (false, 3))]
def con0 : List (Str × D) := [("__name__", .str "law_partlymet_k01_contracts_read"), ("LETTERS", .str "abcdefghijklmnopqrstuvwxyz"), ("DIGITS", .str "0123456789"), ("LONGEST", .int (12)), ("LONGEST_NUMBER", .int (4)), ("FARTHEST_SPOT", .int (30)), ("BARRED", .ctup [.str "input", .str "load", .str "store", .str "set", .str "join", .str "part", .str "each", .str "copy", .str "up", .str "down", .str "fill", .str "step", .str "when", .str "else", .str "end", .str "times", .str "give", .str "call", .str "to", .str "from", .str "upto", .str "is", .str "apart", .str "by"]), ("FARTHEST", .int (40)), ("LONGEST_ROW", .int (16)), ("MODULI", .ctup [.str "2", .str "4", .str "8"]), ("LIMITS", .ctup [.str "from", .str "upto", .str "is"]), ("MOST_POINTERS", .int (3)), ("MOST_FACTS", .int (12))]
def frA0 : List Str := ["iter", "len", "abs", "int", "str", "max", "sum", "all", "list", "tuple", "range", "enumerate", "isinstance", "sorted"]
def meA0 : List ((Str × Str) × Nat) := [(("__init__", "Contract"), 3), (("__len__", "Contract"), 1), (("__iter__", "Contract"), 1)]
def okA0 : List (Str × Str) := [("Contract", "pointers"), ("Contract", "text"), ("Contract", "lines"), ("Contract", "told"), ("Contract", "far"), ("Contract", "modulus")]
def exA0 : List (Str × (Bool × Option Str)) := [("BadPointers", (true, some "index")), ("BadContract", (true, some "line"))]
def xaA0 : List (Str × Str) := [("BadPointers", "index"), ("BadContract", "line")]
def isT_tuple : List (Kd × Bool) := [((0, ""), false), ((1, ""), false), ((2, ""), false), ((3, ""), false), ((4, ""), true), ((5, ""), false), ((6, ""), false), ((8, "BadPointers"), false), ((8, "BadContract"), false)]
def isT_int : List (Kd × Bool) := [((0, ""), false), ((1, ""), true), ((2, ""), true), ((3, ""), false), ((4, ""), false), ((5, ""), false), ((6, ""), false), ((8, "BadPointers"), false), ((8, "BadContract"), false)]
def isT_bool : List (Kd × Bool) := [((0, ""), false), ((1, ""), true), ((2, ""), false), ((3, ""), false), ((4, ""), false), ((5, ""), false), ((6, ""), false), ((8, "BadPointers"), false), ((8, "BadContract"), false)]
def emA0 : List ((Str × Str) × Bool) := []
def itA0 : List (Str × Str) := [("Contract", "lines")]
def isA0 : List (Str × List (Kd × Bool)) := [("tuple", isT_tuple), ("int", isT_int), ("bool", isT_bool)]
def G : GE := ⟨fnA0, clA0, con0, frA0, meA0, okA0, [], 1000, exA0, xaA0, isA0, emA0, itA0⟩
theorem isl_tuple : G.isA.lookup ("tuple" : Str) = some isT_tuple := by kernel_rfl
theorem isl_int : G.isA.lookup ("int" : Str) = some isT_int := by kernel_rfl
theorem isl_bool : G.isA.lookup ("bool" : Str) = some isT_bool := by kernel_rfl
def nmz0 : List PySem.Str := ["_wall", "__name__", "PartlyError", "BadPointers", "BadContract", "BadPlaces", "OtherPointers", "LETTERS", "DIGITS", "LONGEST", "LONGEST_NUMBER", "FARTHEST_SPOT", "BARRED", "lines_of", "is_name", "is_count", "number_of", "spot_of", "FARTHEST", "LONGEST_ROW"]
def nmz1 : List PySem.Str := ["MODULI", "LIMITS", "place_of", "remainder_fact", "pair_fact", "apart_fact", "fact_of", "is_true", "far_of", "modulus_of", "greatest", "placings", "rows_of", "gap_of", "spreads_of", "MOST_POINTERS", "MOST_FACTS", "check_pointers", "check_places", "read_facts"]
def nmz2 : List PySem.Str := ["Contract", "Facts", "_law_begun_pen", "_law_draw", "_law_pick", "_law_spot_text", "_law_fact_text", "_law_facts_text", "_law_far_of", "_law_modulus", "_law_barred", "_law_any_names", "_law_wide_fact", "_law_wide_facts", "_law_number", "_law_pairs_of"]
def itG : Str → Option Str := fun c => G.itA.lookup c
def nms : List PySem.Str := nmz0 ++ nmz1 ++ nmz2
def ownG (Y : Dy) (name : Str) : OwnM := fun c => (G.meA.lookup (name, c)).map fun n => (n, Y.meth c name)
/-- lines_of -/
def m_lines_of (Y : Dy) : MS := (mSeq (mRet (mIf (mBl (mCmp .Eq (mVar 0) (mVal (.str "")))) (mLst mNil) (mMeth (methAlts "split") (ownG Y "split") "split" (mVar 0) (mConsA false (mVal (.str "\n")) mNil)))) mNext)
theorem tr_lines_of (Y : Dy) : trS depth (f_lines_of.tc G Y) f_lines_of.body = m_lines_of Y := by kernel_rfl
theorem c_lines_of (k : Nat) (ds : List D) (M : Mem) : (mkDy G T (k + 1)).call "lines_of" ds M = gcR M.length (runS (m_lines_of (mkDy G T k) (startE ["text"] ds) M)) := by
  have h : T.fn ("lines_of" : Str) = some f_lines_of := by kernel_rfl
  show (match T.fn ("lines_of" : Str) with
    | some d => runF G (mkDy G T k) d ds M
    | none => .stuck) = _
  rw [h]
  show runF G (mkDy G T k) f_lines_of ds M = _
  unfold runF
  rw [tr_lines_of]
  rfl
/-- is_name -/
def l1_is_name (Y : Dy) : ME := (mLc (mIAnyO itG (mVar 0)) (gN 1) mYes (mA false (mCmp .In (mVar 1) (mVal (.str "abcdefghijklmnopqrstuvwxyz")))) [1])
def m_is_name (Y : Dy) : MS := (mSeq (mRet (mAnd (mChain .LtE .LtE (mVal (.int (1))) (mLenO (ownG Y "__len__") (mConsA false (mVar 0) mNil)) (mVal (.int (12)))) (mAnd (mCmp .NotIn (mVar 0) (mVal (.ctup [.str "input", .str "load", .str "store", .str "set", .str "join", .str "part", .str "each", .str "copy", .str "up", .str "down", .str "fill", .str "step", .str "when", .str "else", .str "end", .str "times", .str "give", .str "call", .str "to", .str "from", .str "upto", .str "is", .str "apart", .str "by"]))) (mBlt allS (mConsA false (l1_is_name Y) mNil))))) mNext)
theorem tr_is_name (Y : Dy) : trS depth (f_is_name.tc G Y) f_is_name.body = m_is_name Y := by kernel_rfl
theorem c_is_name (k : Nat) (ds : List D) (M : Mem) : (mkDy G T (k + 1)).call "is_name" ds M = gcR M.length (runS (m_is_name (mkDy G T k) (startE ["word", "sign"] ds) M)) := by
  have h : T.fn ("is_name" : Str) = some f_is_name := by kernel_rfl
  show (match T.fn ("is_name" : Str) with
    | some d => runF G (mkDy G T k) d ds M
    | none => .stuck) = _
  rw [h]
  show runF G (mkDy G T k) f_is_name ds M = _
  unfold runF
  rw [tr_is_name]
  rfl
/-- is_count -/
def l1_is_count (Y : Dy) : ME := (mLc (mIAnyO itG (mVar 0)) (gN 1) mYes (mA false (mCmp .In (mVar 1) (mVal (.str "0123456789")))) [1])
def m_is_count (Y : Dy) : MS := (mSeq (mIfS (mOrT (mBl (mCmp .Eq (mVar 0) (mVal (.str "")))) (mNotT (mTru (mBlt allS (mConsA false (l1_is_count Y) mNil))))) (mSeq (mRet (mVal (.bl false))) mNext) mNext) (mSeq (mRet (mOr (mCmp .Eq (mVar 0) (mVal (.str "0"))) (mCmp .NotEq (mIdx (mVar 0) (mVal (.int (0)))) (mVal (.str "0"))))) mNext))
theorem tr_is_count (Y : Dy) : trS depth (f_is_count.tc G Y) f_is_count.body = m_is_count Y := by kernel_rfl
theorem c_is_count (k : Nat) (ds : List D) (M : Mem) : (mkDy G T (k + 1)).call "is_count" ds M = gcR M.length (runS (m_is_count (mkDy G T k) (startE ["word", "sign"] ds) M)) := by
  have h : T.fn ("is_count" : Str) = some f_is_count := by kernel_rfl
  show (match T.fn ("is_count" : Str) with
    | some d => runF G (mkDy G T k) d ds M
    | none => .stuck) = _
  rw [h]
  show runF G (mkDy G T k) f_is_count ds M = _
  unfold runF
  rw [tr_is_count]
  rfl
/-- number_of -/
def m_number_of (Y : Dy) : MS := (mSeq (mSet false 3 (mIf (mBl (mCmp .Eq (mSlice (mVar 0) mNoPart (mPart (mVal (.int (1))))) (mVal (.str "-")))) (mSlice (mVar 0) (mPart (mVal (.int (1)))) mNoPart) (mVar 0))) (mSeq (mIfS (mOrT (mNotT (mTru (mCall 1 (Y.call "is_count") (mConsA false (mVar 3) mNil)))) (mOrT (mBl (mCmp .Eq (mVar 0) (mVal (.str "-0")))) (mBl (mCmp .Gt (mLenO (ownG Y "__len__") (mConsA false (mVar 3) mNil)) (mVal (.int (4))))))) (mSeq (mRet (mVal (.non))) mNext) mNext) (mSeq (mSet false 4 (mBlt intS (mConsA false (mVar 0) mNil))) (mSeq (mRet (mIf (mBl (mChain .LtE .LtE (mVar 1) (mVar 4) (mVar 2))) (mVar 4) (mVal (.non)))) mNext))))
theorem tr_number_of (Y : Dy) : trS depth (f_number_of.tc G Y) f_number_of.body = m_number_of Y := by kernel_rfl
theorem c_number_of (k : Nat) (ds : List D) (M : Mem) : (mkDy G T (k + 1)).call "number_of" ds M = gcR M.length (runS (m_number_of (mkDy G T k) (startE ["word", "least", "most", "digits", "number"] ds) M)) := by
  have h : T.fn ("number_of" : Str) = some f_number_of := by kernel_rfl
  show (match T.fn ("number_of" : Str) with
    | some d => runF G (mkDy G T k) d ds M
    | none => .stuck) = _
  rw [h]
  show runF G (mkDy G T k) f_number_of ds M = _
  unfold runF
  rw [tr_number_of]
  rfl
/-- spot_of -/
def l1_spot_of (Y : Dy) : ME := (mLc (mIEnu (mConsA false (mVar 0) mNil)) (gT 2 (gsCons (gN 5) (gsCons (gN 6) gsNil))) (mBl (mCmp .Eq (mVar 6) (mVar 2))) (mA false (mVar 5)) [5, 6])
def m_spot_of (Y : Dy) : MS := (mSeq (mSet false 2 (mIdx (mMeth (methAlts "split") (ownG Y "split") "split" (mIdx (mMeth (methAlts "split") (ownG Y "split") "split" (mVar 1) (mConsA false (mVal (.str "+")) mNil)) (mVal (.int (0)))) (mConsA false (mVal (.str "-")) mNil)) (mVal (.int (0))))) (mSeq (mSet false 3 (mSlice (mVar 1) (mPart (mLenO (ownG Y "__len__") (mConsA false (mVar 2) mNil))) mNoPart)) (mSeq (mIfS (mBl (mCmp .NotIn (mVar 2) (mVar 0))) (mSeq (mRet (mVal (.non))) mNext) mNext) (mSeq (mSet false 4 (mIdx (l1_spot_of Y) (mVal (.int (0))))) (mSeq (mIfS (mBl (mCmp .Eq (mVar 3) (mVal (.str "")))) (mSeq (mRet (mTup (mConsA false (mVar 4) (mConsA false (mVal (.int (0))) mNil)))) mNext) mNext) (mSeq (mSet false 7 (mCall 3 (Y.call "number_of") (mConsA false (mSlice (mVar 3) (mPart (mVal (.int (1)))) mNoPart) (mConsA false (mVal (.int (1))) (mConsA false (mVal (.int (30))) mNil))))) (mSeq (mIfS (mBl (mCmp .Is (mVar 7) (mVal (.non)))) (mSeq (mRet (mVal (.non))) mNext) mNext) (mSeq (mRet (mTup (mConsA false (mVar 4) (mConsA false (mIf (mBl (mCmp .Eq (mIdx (mVar 3) (mVal (.int (0)))) (mVal (.str "+")))) (mVar 7) (mNeg (mVar 7))) mNil)))) mNext))))))))
theorem tr_spot_of (Y : Dy) : trS depth (f_spot_of.tc G Y) f_spot_of.body = m_spot_of Y := by kernel_rfl
theorem c_spot_of (k : Nat) (ds : List D) (M : Mem) : (mkDy G T (k + 1)).call "spot_of" ds M = gcR M.length (runS (m_spot_of (mkDy G T k) (startE ["pointers", "word", "name", "rest", "at", "index", "pointer", "number"] ds) M)) := by
  have h : T.fn ("spot_of" : Str) = some f_spot_of := by kernel_rfl
  show (match T.fn ("spot_of" : Str) with
    | some d => runF G (mkDy G T k) d ds M
    | none => .stuck) = _
  rw [h]
  show runF G (mkDy G T k) f_spot_of ds M = _
  unfold runF
  rw [tr_spot_of]
  rfl
/-- place_of -/
def m_place_of (Y : Dy) : MS := (mSeq (mSet false 2 (mCall 2 (Y.call "spot_of") (mConsA false (mVar 0) (mConsA false (mVar 1) mNil)))) (mSeq (mRet (mIf (mAndT (mBl (mCmp .IsNot (mVar 2) (mVal (.non)))) (mTru (mCall 1 (Y.call "is_name") (mConsA false (mVar 1) mNil)))) (mIdx (mVar 2) (mVal (.int (0)))) (mVal (.non)))) mNext))
theorem tr_place_of (Y : Dy) : trS depth (f_place_of.tc G Y) f_place_of.body = m_place_of Y := by kernel_rfl
theorem c_place_of (k : Nat) (ds : List D) (M : Mem) : (mkDy G T (k + 1)).call "place_of" ds M = gcR M.length (runS (m_place_of (mkDy G T k) (startE ["pointers", "word", "spot"] ds) M)) := by
  have h : T.fn ("place_of" : Str) = some f_place_of := by kernel_rfl
  show (match T.fn ("place_of" : Str) with
    | some d => runF G (mkDy G T k) d ds M
    | none => .stuck) = _
  rw [h]
  show runF G (mkDy G T k) f_place_of ds M = _
  unfold runF
  rw [tr_place_of]
  rfl
/-- remainder_fact -/
def m_remainder_fact (Y : Dy) : MS := (mSeq (mIfS (mOrT (mBl (mCmp .NotIn (mIdx (mVar 2) (mVal (.int (0)))) (mVal (.ctup [.str "2", .str "4", .str "8"])))) (mBl (mCmp .In (mVal (.non)) (mVar 1)))) (mSeq (mRet (mVal (.non))) mNext) mNext) (mSeq (mSet false 3 (mBlt intS (mConsA false (mIdx (mVar 2) (mVal (.int (0)))) mNil))) (mSeq (mSet false 4 (mCall 3 (Y.call "number_of") (mConsA false (mIdx (mVar 2) (mVal (.int (1)))) (mConsA false (mVal (.int (0))) (mConsA false (mBin .Sub (mVar 3) (mVal (.int (1)))) mNil))))) (mSeq (mRet (mIf (mBl (mCmp .Is (mVar 4) (mVal (.non)))) (mVal (.non)) (mTup (mConsA false (mVar 0) (mStar (mVar 1) (mConsA false (mVar 3) (mConsA false (mVar 4) mNil))))))) mNext))))
theorem tr_remainder_fact (Y : Dy) : trS depth (f_remainder_fact.tc G Y) f_remainder_fact.body = m_remainder_fact Y := by kernel_rfl
theorem c_remainder_fact (k : Nat) (ds : List D) (M : Mem) : (mkDy G T (k + 1)).call "remainder_fact" ds M = gcR M.length (runS (m_remainder_fact (mkDy G T k) (startE ["kind", "places", "words", "modulus", "rest"] ds) M)) := by
  have h : T.fn ("remainder_fact" : Str) = some f_remainder_fact := by kernel_rfl
  show (match T.fn ("remainder_fact" : Str) with
    | some d => runF G (mkDy G T k) d ds M
    | none => .stuck) = _
  rw [h]
  show runF G (mkDy G T k) f_remainder_fact ds M = _
  unfold runF
  rw [tr_remainder_fact]
  rfl
/-- pair_fact -/
def m_pair_fact (Y : Dy) : MS := (mSeq (mSet false 2 (mLst (mConsA false (mCall 2 (Y.call "place_of") (mConsA false (mVar 0) (mConsA false (mIdx (mVar 1) (mVal (.int (0)))) mNil))) (mConsA false (mCall 2 (Y.call "place_of") (mConsA false (mVar 0) (mConsA false (mIdx (mVar 1) (mVal (.int (2)))) mNil))) mNil)))) (mSeq (mIfS (mOrT (mBl (mCmp .In (mVal (.non)) (mVar 2))) (mBl (mCmp .Eq (mIdx (mVar 2) (mVal (.int (0)))) (mIdx (mVar 2) (mVal (.int (1))))))) (mSeq (mRet (mVal (.non))) mNext) mNext) (mSeq (mIfS (mBl (mCmp .Eq (mLenO (ownG Y "__len__") (mConsA false (mVar 1) mNil)) (mVal (.int (6))))) (mSeq (mRet (mIf (mBl (mCmp .Eq (mIdx (mVar 1) (mVal (.int (3)))) (mVal (.str "by")))) (mCall 3 (Y.call "remainder_fact") (mConsA false (mVal (.str "between")) (mConsA false (mVar 2) (mConsA false (mSlice (mVar 1) (mPart (mVal (.int (4)))) mNoPart) mNil)))) (mVal (.non)))) mNext) mNext) (mSeq (mSet false 3 (mCall 3 (Y.call "number_of") (mConsA false (mIdx (mVar 1) (mVal (.int (4)))) (mConsA false (mNeg (mVal (.int (40)))) (mConsA false (mVal (.int (40))) mNil))))) (mSeq (mIfS (mOrT (mBl (mCmp .NotIn (mIdx (mVar 1) (mVal (.int (3)))) (mVal (.ctup [.str "from", .str "upto", .str "is"])))) (mBl (mCmp .Is (mVar 3) (mVal (.non))))) (mSeq (mRet (mVal (.non))) mNext) mNext) (mSeq (mRet (mTup (mConsA false (mIdx (mVar 1) (mVal (.int (3)))) (mStar (mVar 2) (mConsA false (mVar 3) mNil))))) mNext))))))
theorem tr_pair_fact (Y : Dy) : trS depth (f_pair_fact.tc G Y) f_pair_fact.body = m_pair_fact Y := by kernel_rfl
theorem c_pair_fact (k : Nat) (ds : List D) (M : Mem) : (mkDy G T (k + 1)).call "pair_fact" ds M = gcR M.length (runS (m_pair_fact (mkDy G T k) (startE ["pointers", "words", "places", "distance"] ds) M)) := by
  have h : T.fn ("pair_fact" : Str) = some f_pair_fact := by kernel_rfl
  show (match T.fn ("pair_fact" : Str) with
    | some d => runF G (mkDy G T k) d ds M
    | none => .stuck) = _
  rw [h]
  show runF G (mkDy G T k) f_pair_fact ds M = _
  unfold runF
  rw [tr_pair_fact]
  rfl
/-- apart_fact -/
def l1_apart_fact (Y : Dy) : ME := (mLc (mIAnyO itG (mTup (mConsA false (mIdx (mVar 1) (mVal (.int (2)))) (mConsA false (mIdx (mVar 1) (mVal (.int (4)))) mNil)))) (gN 5) mYes (mA false (mCall 3 (Y.call "number_of") (mConsA false (mVar 5) (mConsA false (mVal (.int (1))) (mConsA false (mVal (.int (16))) mNil))))) [5])
def m_apart_fact (Y : Dy) : MS := (mSeq (mPar [2, 3] (mConsA false (mCall 2 (Y.call "spot_of") (mConsA false (mVar 0) (mConsA false (mIdx (mVar 1) (mVal (.int (1)))) mNil))) (mConsA false (mCall 2 (Y.call "spot_of") (mConsA false (mVar 0) (mConsA false (mIdx (mVar 1) (mVal (.int (3)))) mNil))) mNil))) (mSeq (mSet false 4 (l1_apart_fact Y)) (mSeq (mIfS (mOrT (mBl (mCmp .Is (mVar 2) (mVal (.non)))) (mOrT (mBl (mCmp .Is (mVar 3) (mVal (.non)))) (mOrT (mBl (mCmp .Eq (mIdx (mVar 2) (mVal (.int (0)))) (mIdx (mVar 3) (mVal (.int (0)))))) (mBl (mCmp .In (mVal (.non)) (mVar 4)))))) (mSeq (mRet (mVal (.non))) mNext) mNext) (mSeq (mRet (mTup (mConsA false (mVal (.str "apart")) (mConsA false (mVar 2) (mConsA false (mIdx (mVar 4) (mVal (.int (0)))) (mConsA false (mVar 3) (mConsA false (mIdx (mVar 4) (mVal (.int (1)))) mNil))))))) mNext))))
theorem tr_apart_fact (Y : Dy) : trS depth (f_apart_fact.tc G Y) f_apart_fact.body = m_apart_fact Y := by kernel_rfl
theorem c_apart_fact (k : Nat) (ds : List D) (M : Mem) : (mkDy G T (k + 1)).call "apart_fact" ds M = gcR M.length (runS (m_apart_fact (mkDy G T k) (startE ["pointers", "words", "one", "other", "sizes", "word"] ds) M)) := by
  have h : T.fn ("apart_fact" : Str) = some f_apart_fact := by kernel_rfl
  show (match T.fn ("apart_fact" : Str) with
    | some d => runF G (mkDy G T k) d ds M
    | none => .stuck) = _
  rw [h]
  show runF G (mkDy G T k) f_apart_fact ds M = _
  unfold runF
  rw [tr_apart_fact]
  rfl
/-- fact_of -/
def m_fact_of (Y : Dy) : MS := (mSeq (mIfS (mAndT (mBl (mCmp .Eq (mLenO (ownG Y "__len__") (mConsA false (mVar 1) mNil)) (mVal (.int (4))))) (mBl (mCmp .Eq (mIdx (mVar 1) (mVal (.int (1)))) (mVal (.str "by"))))) (mSeq (mRet (mCall 3 (Y.call "remainder_fact") (mConsA false (mVal (.str "by")) (mConsA false (mLst (mConsA false (mCall 2 (Y.call "place_of") (mConsA false (mVar 0) (mConsA false (mIdx (mVar 1) (mVal (.int (0)))) mNil))) mNil)) (mConsA false (mSlice (mVar 1) (mPart (mVal (.int (2)))) mNoPart) mNil))))) mNext) mNext) (mSeq (mIfS (mAndT (mBl (mCmp .Eq (mLenO (ownG Y "__len__") (mConsA false (mVar 1) mNil)) (mVal (.int (5))))) (mBl (mCmp .Eq (mIdx (mVar 1) (mVal (.int (0)))) (mVal (.str "apart"))))) (mSeq (mRet (mCall 2 (Y.call "apart_fact") (mConsA false (mVar 0) (mConsA false (mVar 1) mNil)))) mNext) mNext) (mSeq (mIfS (mAndT (mBl (mCmp .In (mLenO (ownG Y "__len__") (mConsA false (mVar 1) mNil)) (mTup (mConsA false (mVal (.int (5))) (mConsA false (mVal (.int (6))) mNil))))) (mBl (mCmp .Eq (mIdx (mVar 1) (mVal (.int (1)))) (mVal (.str "to"))))) (mSeq (mRet (mCall 2 (Y.call "pair_fact") (mConsA false (mVar 0) (mConsA false (mVar 1) mNil)))) mNext) mNext) (mSeq (mRet (mVal (.non))) mNext))))
theorem tr_fact_of (Y : Dy) : trS depth (f_fact_of.tc G Y) f_fact_of.body = m_fact_of Y := by kernel_rfl
theorem c_fact_of (k : Nat) (ds : List D) (M : Mem) : (mkDy G T (k + 1)).call "fact_of" ds M = gcR M.length (runS (m_fact_of (mkDy G T k) (startE ["pointers", "words"] ds) M)) := by
  have h : T.fn ("fact_of" : Str) = some f_fact_of := by kernel_rfl
  show (match T.fn ("fact_of" : Str) with
    | some d => runF G (mkDy G T k) d ds M
    | none => .stuck) = _
  rw [h]
  show runF G (mkDy G T k) f_fact_of ds M = _
  unfold runF
  rw [tr_fact_of]
  rfl
/-- far_of -/
def m_far_of (Y : Dy) : MS := (mSeq (mIfS (mBl (mCmp .Eq (mIdx (mVar 0) (mVal (.int (0)))) (mVal (.str "apart")))) (mSeq (mRet (mBin .Add (mBin .Add (mBin .Add (mIdx (mVar 0) (mVal (.int (2)))) (mIdx (mVar 0) (mVal (.int (4))))) (mBlt absS (mConsA false (mIdx (mIdx (mVar 0) (mVal (.int (1)))) (mVal (.int (1)))) mNil))) (mBlt absS (mConsA false (mIdx (mIdx (mVar 0) (mVal (.int (3)))) (mVal (.int (1)))) mNil)))) mNext) mNext) (mSeq (mRet (mIf (mBl (mCmp .In (mIdx (mVar 0) (mVal (.int (0)))) (mVal (.ctup [.str "from", .str "upto", .str "is"])))) (mBlt absS (mConsA false (mIdx (mVar 0) (mVal (.int (3)))) mNil)) (mVal (.int (0))))) mNext))
theorem tr_far_of (Y : Dy) : trS depth (f_far_of.tc G Y) f_far_of.body = m_far_of Y := by kernel_rfl
theorem c_far_of (k : Nat) (ds : List D) (M : Mem) : (mkDy G T (k + 1)).call "far_of" ds M = gcR M.length (runS (m_far_of (mkDy G T k) (startE ["fact"] ds) M)) := by
  have h : T.fn ("far_of" : Str) = some f_far_of := by kernel_rfl
  show (match T.fn ("far_of" : Str) with
    | some d => runF G (mkDy G T k) d ds M
    | none => .stuck) = _
  rw [h]
  show runF G (mkDy G T k) f_far_of ds M = _
  unfold runF
  rw [tr_far_of]
  rfl
/-- modulus_of -/
def m_modulus_of (Y : Dy) : MS := (mSeq (mRet (mIf (mBl (mCmp .In (mIdx (mVar 0) (mVal (.int (0)))) (mTup (mConsA false (mVal (.str "by")) (mConsA false (mVal (.str "between")) mNil))))) (mIdx (mVar 0) (mNeg (mVal (.int (2))))) (mVal (.int (1))))) mNext)
theorem tr_modulus_of (Y : Dy) : trS depth (f_modulus_of.tc G Y) f_modulus_of.body = m_modulus_of Y := by kernel_rfl
theorem c_modulus_of (k : Nat) (ds : List D) (M : Mem) : (mkDy G T (k + 1)).call "modulus_of" ds M = gcR M.length (runS (m_modulus_of (mkDy G T k) (startE ["fact"] ds) M)) := by
  have h : T.fn ("modulus_of" : Str) = some f_modulus_of := by kernel_rfl
  show (match T.fn ("modulus_of" : Str) with
    | some d => runF G (mkDy G T k) d ds M
    | none => .stuck) = _
  rw [h]
  show runF G (mkDy G T k) f_modulus_of ds M = _
  unfold runF
  rw [tr_modulus_of]
  rfl
/-- greatest -/
def l1_greatest (Y : Dy) : ME := (mLc (mIAnyO itG (mVar 0)) (gN 2) mYes (mA false (mBlt intS (mConsA false (mVar 2) mNil))) [2])
def m_greatest (Y : Dy) : MS := (mSeq (mRet (mBlt maxS (mConsA false (mBin .Add (mLst (mConsA false (mVar 1) mNil)) (l1_greatest Y)) mNil))) mNext)
theorem tr_greatest (Y : Dy) : trS depth (f_greatest.tc G Y) f_greatest.body = m_greatest Y := by kernel_rfl
theorem c_greatest (k : Nat) (ds : List D) (M : Mem) : (mkDy G T (k + 1)).call "greatest" ds M = gcR M.length (runS (m_greatest (mkDy G T k) (startE ["numbers", "least", "number"] ds) M)) := by
  have h : T.fn ("greatest" : Str) = some f_greatest := by kernel_rfl
  show (match T.fn ("greatest" : Str) with
    | some d => runF G (mkDy G T k) d ds M
    | none => .stuck) = _
  rw [h]
  show runF G (mkDy G T k) f_greatest ds M = _
  unfold runF
  rw [tr_greatest]
  rfl
/-- check_pointers -/
def t1_check_pointers (Y : Dy) : MS := (mSeq (mIfS (mOrT (mBl (mCmp .Eq (mVar 1) (mVal (.int (3))))) (mOrT (mNotT (mTru (mCall 1 (Y.call "is_name") (mConsA false (mVar 2) mNil)))) (mBl (mCmp .In (mVar 2) (mSlice (mVar 0) mNoPart (mPart (mVar 1))))))) (mSeq (mRaise "BadPointers" true (some "index") (mConsA false (mVar 1) mNil)) mNext) mNext) mNext)
def b1_check_pointers (Y : Dy) : MS := (mFor (mIEnu (mConsA false (mVar 0) mNil)) (gT 2 (gsCons (gN 1) (gsCons (gN 2) gsNil))) (t1_check_pointers Y))
def m_check_pointers (Y : Dy) : MS := (mSeq (b1_check_pointers Y) (mSeq (mIfS (mBl (mCmp .Eq (mLenO (ownG Y "__len__") (mConsA false (mVar 0) mNil)) (mVal (.int (0))))) (mSeq (mRaise "BadPointers" true (some "index") (mConsA false (mVal (.int (0))) mNil)) mNext) mNext) mNext))
theorem tr_check_pointers (Y : Dy) : trS depth (f_check_pointers.tc G Y) f_check_pointers.body = m_check_pointers Y := by kernel_rfl
theorem c_check_pointers (k : Nat) (ds : List D) (M : Mem) : (mkDy G T (k + 1)).call "check_pointers" ds M = gcR M.length (runS (m_check_pointers (mkDy G T k) (startE ["pointers", "at", "name"] ds) M)) := by
  have h : T.fn ("check_pointers" : Str) = some f_check_pointers := by kernel_rfl
  show (match T.fn ("check_pointers" : Str) with
    | some d => runF G (mkDy G T k) d ds M
    | none => .stuck) = _
  rw [h]
  show runF G (mkDy G T k) f_check_pointers ds M = _
  unfold runF
  rw [tr_check_pointers]
  rfl
/-- read_facts -/
def t1_read_facts (Y : Dy) : MS := (mSeq (mSet false 5 (mCall 2 (Y.call "fact_of") (mConsA false (mVar 0) (mConsA false (mMeth (methAlts "split") (ownG Y "split") "split" (mVar 4) (mConsA false (mVal (.str " ")) mNil)) mNil)))) (mSeq (mIfS (mOrT (mBl (mCmp .Is (mVar 5) (mVal (.non)))) (mOrT (mBl (mCmp .Eq (mVar 3) (mVal (.int (12))))) (mBl (mCmp .In (mVar 4) (mSlice (mVar 1) mNoPart (mPart (mVar 3))))))) (mSeq (mRaise "BadContract" true (some "line") (mConsA false (mBin .Add (mVar 3) (mVal (.int (1)))) mNil)) mNext) mNext) (mSeq (mDrop (mMeth (methAlts "append") (ownG Y "append") "append" (mVar 2) (mConsA false (mVar 5) mNil))) mNext)))
def b1_read_facts (Y : Dy) : MS := (mFor (mIEnu (mConsA false (mVar 1) mNil)) (gT 2 (gsCons (gN 3) (gsCons (gN 4) gsNil))) (t1_read_facts Y))
def m_read_facts (Y : Dy) : MS := (mSeq (mSet true 2 (mLst mNil)) (mSeq (b1_read_facts Y) (mSeq (mRet (mVar 2)) mNext)))
theorem tr_read_facts (Y : Dy) : trS depth (f_read_facts.tc G Y) f_read_facts.body = m_read_facts Y := by kernel_rfl
theorem c_read_facts (k : Nat) (ds : List D) (M : Mem) : (mkDy G T (k + 1)).call "read_facts" ds M = gcR M.length (runS (m_read_facts (mkDy G T k) (startE ["pointers", "lines", "found", "at", "line", "fact"] ds) M)) := by
  have h : T.fn ("read_facts" : Str) = some f_read_facts := by kernel_rfl
  show (match T.fn ("read_facts" : Str) with
    | some d => runF G (mkDy G T k) d ds M
    | none => .stuck) = _
  rw [h]
  show runF G (mkDy G T k) f_read_facts ds M = _
  unfold runF
  rw [tr_read_facts]
  rfl
/-- _law_begun_pen -/
def m__law_begun_pen (Y : Dy) : MS := (mSeq (mRet (mDict [((mVal (.str "cells")), (mBlt (listO itG (ownG Y "__len__")) (mConsA false (mSlice (mVar 0) mNoPart (mPart (mVal (.int (63))))) mNil))), ((mVal (.str "turn")), (mVal (.int (0)))), ((mVal (.str "left")), (mVal (.int (0))))])) mNext)
theorem tr__law_begun_pen (Y : Dy) : trS depth (f__law_begun_pen.tc G Y) f__law_begun_pen.body = m__law_begun_pen Y := by kernel_rfl
theorem c__law_begun_pen (k : Nat) (ds : List D) (M : Mem) : (mkDy G T (k + 1)).call "_law_begun_pen" ds M = gcR M.length (runS (m__law_begun_pen (mkDy G T k) (startE ["script"] ds) M)) := by
  have h : T.fn ("_law_begun_pen" : Str) = some f__law_begun_pen := by kernel_rfl
  show (match T.fn ("_law_begun_pen" : Str) with
    | some d => runF G (mkDy G T k) d ds M
    | none => .stuck) = _
  rw [h]
  show runF G (mkDy G T k) f__law_begun_pen ds M = _
  unfold runF
  rw [tr__law_begun_pen]
  rfl
/-- _law_draw -/
def m__law_draw (Y : Dy) : MS := (mSeq (mIfS (mBl (mCmp .Gt (mIdx (mVar 0) (mVal (.str "left"))) (mVal (.int (0))))) (mSeq (mSet false 2 (mBin .Mod (mBlt intS (mConsA false (mIdx (mVar 0) (mVal (.str "left"))) mNil)) (mVar 1))) (mSeq (mSub false (mBin .FloorDiv (mIdx (mVar 0) (mVal (.str "left"))) (mVar 1)) (mVar 0) (mVal (.str "left"))) (mSeq (mRet (mVar 2)) mNext))) mNext) (mSeq (mSet false 3 (mIdx (mVar 0) (mVal (.str "turn")))) (mSeq (mSub false (mBin .Add (mVar 3) (mVal (.int (1)))) (mVar 0) (mVal (.str "turn"))) (mSeq (mSet false 4 (mBin .Add (mBin .Mult (mVal (.int (61))) (mVar 3)) (mVal (.int (13))))) (mSeq (mIfS (mBl (mCmp .NotEq (mIdx (mVar 0) (mVal (.str "cells"))) (mLst mNil))) (mSeq (mSet false 4 (mIdx (mIdx (mVar 0) (mVal (.str "cells"))) (mBin .Mod (mBlt intS (mConsA false (mVar 3) mNil)) (mLenO (ownG Y "__len__") (mConsA false (mIdx (mVar 0) (mVal (.str "cells"))) mNil))))) mNext) mNext) (mSeq (mIfS (mAndT (mBl (mCmp .Lt (mVar 3) (mLenO (ownG Y "__len__") (mConsA false (mIdx (mVar 0) (mVal (.str "cells"))) mNil)))) (mBl (mCmp .GtE (mBlt absS (mConsA false (mVar 4) mNil)) (mBin .Pow (mVal (.int (10))) (mVal (.int (18))))))) (mSeq (mSub false (mBin .FloorDiv (mBin .Sub (mBlt absS (mConsA false (mVar 4) mNil)) (mBin .Pow (mVal (.int (10))) (mVal (.int (18))))) (mVar 1)) (mVar 0) (mVal (.str "left"))) (mSeq (mRet (mBin .Mod (mBlt intS (mConsA false (mBin .Sub (mBlt absS (mConsA false (mVar 4) mNil)) (mBin .Pow (mVal (.int (10))) (mVal (.int (18))))) mNil)) (mVar 1))) mNext)) mNext) (mSeq (mSet false 5 (mBin .Mult (mBin .Mod (mBlt intS (mConsA false (mVar 4) mNil)) (mVal (.int (4294967087)))) (mVal (.int (48611))))) (mSeq (mSet false 5 (mBin .Mod (mBlt intS (mConsA false (mBin .Add (mBin .Add (mVar 5) (mBin .Mult (mVar 3) (mBin .Add (mBin .Mult (mVar 3) (mVal (.int (27919)))) (mVal (.int (10601)))))) (mVal (.int (41)))) mNil)) (mVal (.int (4294967029))))) (mSeq (mSet false 5 (mBin .Mod (mBlt intS (mConsA false (mBin .Mult (mVar 5) (mBin .Add (mVar 5) (mVal (.int (75013))))) mNil)) (mVal (.int (4294966997))))) (mSeq (mSet false 5 (mBin .Mod (mBlt intS (mConsA false (mBin .Add (mBin .Add (mBin .Mult (mVar 5) (mVar 5)) (mBin .Mult (mVal (.int (30427))) (mVar 5))) (mBin .Mult (mVal (.int (19))) (mVar 3))) mNil)) (mVal (.int (4294966981))))) (mSeq (mRet (mBin .Mod (mBlt intS (mConsA false (mBin .FloorDiv (mBin .Mod (mBlt intS (mConsA false (mBin .Mult (mVar 5) (mBin .Add (mVar 5) (mVal (.int (58111))))) mNil)) (mVal (.int (4294966943)))) (mVal (.int (64)))) mNil)) (mVar 1))) mNext)))))))))))
theorem tr__law_draw (Y : Dy) : trS depth (f__law_draw.tc G Y) f__law_draw.body = m__law_draw Y := by kernel_rfl
theorem c__law_draw (k : Nat) (ds : List D) (M : Mem) : (mkDy G T (k + 1)).call "_law_draw" ds M = gcR M.length (runS (m__law_draw (mkDy G T k) (startE ["pen", "span", "digit", "turn", "cell", "mixed"] ds) M)) := by
  have h : T.fn ("_law_draw" : Str) = some f__law_draw := by kernel_rfl
  show (match T.fn ("_law_draw" : Str) with
    | some d => runF G (mkDy G T k) d ds M
    | none => .stuck) = _
  rw [h]
  show runF G (mkDy G T k) f__law_draw ds M = _
  unfold runF
  rw [tr__law_draw]
  rfl
/-- _law_pick -/
def m__law_pick (Y : Dy) : MS := (mSeq (mRet (mIdx (mVar 1) (mCall 2 (Y.call "_law_draw") (mConsA false (mVar 0) (mConsA false (mLenO (ownG Y "__len__") (mConsA false (mVar 1) mNil)) mNil))))) mNext)
theorem tr__law_pick (Y : Dy) : trS depth (f__law_pick.tc G Y) f__law_pick.body = m__law_pick Y := by kernel_rfl
theorem c__law_pick (k : Nat) (ds : List D) (M : Mem) : (mkDy G T (k + 1)).call "_law_pick" ds M = gcR M.length (runS (m__law_pick (mkDy G T k) (startE ["pen", "options"] ds) M)) := by
  have h : T.fn ("_law_pick" : Str) = some f__law_pick := by kernel_rfl
  show (match T.fn ("_law_pick" : Str) with
    | some d => runF G (mkDy G T k) d ds M
    | none => .stuck) = _
  rw [h]
  show runF G (mkDy G T k) f__law_pick ds M = _
  unfold runF
  rw [tr__law_pick]
  rfl
/-- _law_spot_text -/
def m__law_spot_text (Y : Dy) : MS := (mSeq (mRet (mBin .Add (mBin .Add (mVar 0) (mIf (mBl (mCmp .Gt (mVar 1) (mVal (.int (0))))) (mBin .Add (mVal (.str "+")) (mBlt strS (mConsA false (mVar 1) mNil))) (mVal (.str "")))) (mIf (mBl (mCmp .Lt (mVar 1) (mVal (.int (0))))) (mBlt strS (mConsA false (mVar 1) mNil)) (mVal (.str ""))))) mNext)
theorem tr__law_spot_text (Y : Dy) : trS depth (f__law_spot_text.tc G Y) f__law_spot_text.body = m__law_spot_text Y := by kernel_rfl
theorem c__law_spot_text (k : Nat) (ds : List D) (M : Mem) : (mkDy G T (k + 1)).call "_law_spot_text" ds M = gcR M.length (runS (m__law_spot_text (mkDy G T k) (startE ["name", "number"] ds) M)) := by
  have h : T.fn ("_law_spot_text" : Str) = some f__law_spot_text := by kernel_rfl
  show (match T.fn ("_law_spot_text" : Str) with
    | some d => runF G (mkDy G T k) d ds M
    | none => .stuck) = _
  rw [h]
  show runF G (mkDy G T k) f__law_spot_text ds M = _
  unfold runF
  rw [tr__law_spot_text]
  rfl
/-- _law_fact_text -/
def m__law_fact_text (Y : Dy) : MS := (mSeq (mIfS (mBl (mCmp .In (mIdx (mVar 0) (mVal (.int (0)))) (mTup (mConsA false (mVal (.str "from")) (mConsA false (mVal (.str "upto")) (mConsA false (mVal (.str "is")) mNil)))))) (mSeq (mRet (mMeth (methAlts "join") (ownG Y "join") "join" (mVal (.str " ")) (mConsA false (mLst (mConsA false (mIdx (mVar 0) (mVal (.int (1)))) (mConsA false (mVal (.str "to")) (mConsA false (mIdx (mVar 0) (mVal (.int (2)))) (mConsA false (mIdx (mVar 0) (mVal (.int (0)))) (mConsA false (mBlt strS (mConsA false (mIdx (mVar 0) (mVal (.int (3)))) mNil)) mNil)))))) mNil))) mNext) mNext) (mSeq (mIfS (mBl (mCmp .Eq (mIdx (mVar 0) (mVal (.int (0)))) (mVal (.str "apart")))) (mSeq (mPar [1, 2] (mConsA false (mCall 2 (Y.call "_law_spot_text") (mConsA false (mIdx (mVar 0) (mVal (.int (1)))) (mConsA false (mIdx (mVar 0) (mVal (.int (2)))) mNil))) (mConsA false (mCall 2 (Y.call "_law_spot_text") (mConsA false (mIdx (mVar 0) (mVal (.int (4)))) (mConsA false (mIdx (mVar 0) (mVal (.int (5)))) mNil))) mNil))) (mSeq (mRet (mMeth (methAlts "join") (ownG Y "join") "join" (mVal (.str " ")) (mConsA false (mLst (mConsA false (mVal (.str "apart")) (mConsA false (mVar 1) (mConsA false (mBlt strS (mConsA false (mIdx (mVar 0) (mVal (.int (3)))) mNil)) (mConsA false (mVar 2) (mConsA false (mBlt strS (mConsA false (mIdx (mVar 0) (mVal (.int (6)))) mNil)) mNil)))))) mNil))) mNext)) mNext) (mSeq (mIfS (mBl (mCmp .Eq (mIdx (mVar 0) (mVal (.int (0)))) (mVal (.str "by")))) (mSeq (mRet (mMeth (methAlts "join") (ownG Y "join") "join" (mVal (.str " ")) (mConsA false (mLst (mConsA false (mIdx (mVar 0) (mVal (.int (1)))) (mConsA false (mVal (.str "by")) (mConsA false (mBlt strS (mConsA false (mIdx (mVar 0) (mVal (.int (2)))) mNil)) (mConsA false (mBlt strS (mConsA false (mIdx (mVar 0) (mVal (.int (3)))) mNil)) mNil))))) mNil))) mNext) mNext) (mSeq (mRet (mMeth (methAlts "join") (ownG Y "join") "join" (mVal (.str " ")) (mConsA false (mLst (mConsA false (mIdx (mVar 0) (mVal (.int (1)))) (mConsA false (mVal (.str "to")) (mConsA false (mIdx (mVar 0) (mVal (.int (2)))) (mConsA false (mVal (.str "by")) (mConsA false (mBlt strS (mConsA false (mIdx (mVar 0) (mVal (.int (3)))) mNil)) (mConsA false (mBlt strS (mConsA false (mIdx (mVar 0) (mVal (.int (4)))) mNil)) mNil))))))) mNil))) mNext))))
theorem tr__law_fact_text (Y : Dy) : trS depth (f__law_fact_text.tc G Y) f__law_fact_text.body = m__law_fact_text Y := by kernel_rfl
theorem c__law_fact_text (k : Nat) (ds : List D) (M : Mem) : (mkDy G T (k + 1)).call "_law_fact_text" ds M = gcR M.length (runS (m__law_fact_text (mkDy G T k) (startE ["fact", "one", "two"] ds) M)) := by
  have h : T.fn ("_law_fact_text" : Str) = some f__law_fact_text := by kernel_rfl
  show (match T.fn ("_law_fact_text" : Str) with
    | some d => runF G (mkDy G T k) d ds M
    | none => .stuck) = _
  rw [h]
  show runF G (mkDy G T k) f__law_fact_text ds M = _
  unfold runF
  rw [tr__law_fact_text]
  rfl
/-- _law_facts_text -/
def l1__law_facts_text (Y : Dy) : ME := (mLc (mIAnyO itG (mVar 0)) (gN 1) mYes (mA false (mCall 1 (Y.call "_law_fact_text") (mConsA false (mVar 1) mNil))) [1])
def m__law_facts_text (Y : Dy) : MS := (mSeq (mRet (mMeth (methAlts "join") (ownG Y "join") "join" (mVal (.str "\n")) (mConsA false (l1__law_facts_text Y) mNil))) mNext)
theorem tr__law_facts_text (Y : Dy) : trS depth (f__law_facts_text.tc G Y) f__law_facts_text.body = m__law_facts_text Y := by kernel_rfl
theorem c__law_facts_text (k : Nat) (ds : List D) (M : Mem) : (mkDy G T (k + 1)).call "_law_facts_text" ds M = gcR M.length (runS (m__law_facts_text (mkDy G T k) (startE ["facts", "fact"] ds) M)) := by
  have h : T.fn ("_law_facts_text" : Str) = some f__law_facts_text := by kernel_rfl
  show (match T.fn ("_law_facts_text" : Str) with
    | some d => runF G (mkDy G T k) d ds M
    | none => .stuck) = _
  rw [h]
  show runF G (mkDy G T k) f__law_facts_text ds M = _
  unfold runF
  rw [tr__law_facts_text]
  rfl
/-- _law_far_of -/
def m__law_far_of (Y : Dy) : MS := (mSeq (mIfS (mBl (mCmp .Eq (mIdx (mVar 0) (mVal (.int (0)))) (mVal (.str "apart")))) (mSeq (mRet (mBin .Add (mBin .Add (mBin .Add (mBlt absS (mConsA false (mIdx (mVar 0) (mVal (.int (2)))) mNil)) (mIdx (mVar 0) (mVal (.int (3))))) (mBlt absS (mConsA false (mIdx (mVar 0) (mVal (.int (5)))) mNil))) (mIdx (mVar 0) (mVal (.int (6)))))) mNext) mNext) (mSeq (mRet (mIf (mBl (mCmp .In (mIdx (mVar 0) (mVal (.int (0)))) (mTup (mConsA false (mVal (.str "from")) (mConsA false (mVal (.str "upto")) (mConsA false (mVal (.str "is")) mNil)))))) (mBlt absS (mConsA false (mIdx (mVar 0) (mVal (.int (3)))) mNil)) (mVal (.int (0))))) mNext))
theorem tr__law_far_of (Y : Dy) : trS depth (f__law_far_of.tc G Y) f__law_far_of.body = m__law_far_of Y := by kernel_rfl
theorem c__law_far_of (k : Nat) (ds : List D) (M : Mem) : (mkDy G T (k + 1)).call "_law_far_of" ds M = gcR M.length (runS (m__law_far_of (mkDy G T k) (startE ["fact"] ds) M)) := by
  have h : T.fn ("_law_far_of" : Str) = some f__law_far_of := by kernel_rfl
  show (match T.fn ("_law_far_of" : Str) with
    | some d => runF G (mkDy G T k) d ds M
    | none => .stuck) = _
  rw [h]
  show runF G (mkDy G T k) f__law_far_of ds M = _
  unfold runF
  rw [tr__law_far_of]
  rfl
/-- _law_modulus -/
def t1__law_modulus (Y : Dy) : MS := (mSeq (mIfS (mBl (mCmp .In (mIdx (mVar 2) (mVal (.int (0)))) (mTup (mConsA false (mVal (.str "by")) (mConsA false (mVal (.str "gap")) mNil))))) (mSeq (mSet false 1 (mBlt maxS (mConsA false (mBlt intS (mConsA false (mVar 1) mNil)) (mConsA false (mBlt intS (mConsA false (mIf (mBl (mCmp .Eq (mIdx (mVar 2) (mVal (.int (0)))) (mVal (.str "by")))) (mIdx (mVar 2) (mVal (.int (2)))) (mIdx (mVar 2) (mVal (.int (3))))) mNil)) mNil)))) mNext) mNext) mNext)
def b1__law_modulus (Y : Dy) : MS := (mFor (mIAnyO itG (mVar 0)) (gN 2) (t1__law_modulus Y))
def m__law_modulus (Y : Dy) : MS := (mSeq (mSet false 1 (mVal (.int (1)))) (mSeq (b1__law_modulus Y) (mSeq (mRet (mVar 1)) mNext)))
theorem tr__law_modulus (Y : Dy) : trS depth (f__law_modulus.tc G Y) f__law_modulus.body = m__law_modulus Y := by kernel_rfl
theorem c__law_modulus (k : Nat) (ds : List D) (M : Mem) : (mkDy G T (k + 1)).call "_law_modulus" ds M = gcR M.length (runS (m__law_modulus (mkDy G T k) (startE ["facts", "found", "fact"] ds) M)) := by
  have h : T.fn ("_law_modulus" : Str) = some f__law_modulus := by kernel_rfl
  show (match T.fn ("_law_modulus" : Str) with
    | some d => runF G (mkDy G T k) d ds M
    | none => .stuck) = _
  rw [h]
  show runF G (mkDy G T k) f__law_modulus ds M = _
  unfold runF
  rw [tr__law_modulus]
  rfl
/-- _law_barred -/
def m__law_barred (Y : Dy) : MS := (mSeq (mSet false 0 (mVal (.str "input load store set join part each copy up down fill step when else end times give call"))) (mSeq (mRet (mMeth (methAlts "split") (ownG Y "split") "split" (mBin .Add (mVar 0) (mVal (.str " to from upto is apart by"))) (mConsA false (mVal (.str " ")) mNil))) mNext))
theorem tr__law_barred (Y : Dy) : trS depth (f__law_barred.tc G Y) f__law_barred.body = m__law_barred Y := by kernel_rfl
theorem c__law_barred (k : Nat) (ds : List D) (M : Mem) : (mkDy G T (k + 1)).call "_law_barred" ds M = gcR M.length (runS (m__law_barred (mkDy G T k) (startE ["words"] ds) M)) := by
  have h : T.fn ("_law_barred" : Str) = some f__law_barred := by kernel_rfl
  show (match T.fn ("_law_barred" : Str) with
    | some d => runF G (mkDy G T k) d ds M
    | none => .stuck) = _
  rw [h]
  show runF G (mkDy G T k) f__law_barred ds M = _
  unfold runF
  rw [tr__law_barred]
  rfl
/-- _law_any_names -/
def l1__law_any_names (Y : Dy) : ME := (mLc (mIAnyO itG (mLst (mConsA false (mVal (.str "p")) (mConsA false (mVal (.str "q")) (mConsA false (mVal (.str "low")) (mConsA false (mVal (.str "ends")) (mConsA false (mVal (.str "partly")) (mConsA false (mVal (.str "x")) mNil)))))))) (gN 5) (mBl (mCmp .NotIn (mVar 5) (mVar 3))) (mA false (mVar 5)) [5])
def l2__law_any_names (Y : Dy) : ME := (mLc (mIRng1 (mConsA false (mBin .Add (mVal (.int (1))) (mCall 2 (Y.call "_law_draw") (mConsA false (mVar 0) (mConsA false (mVal (.int (12))) mNil)))) mNil)) (gN 6) mYes (mA false (mCall 2 (Y.call "_law_pick") (mConsA false (mVar 0) (mConsA false (mVar 2) mNil)))) [6])
def t3__law_any_names (Y : Dy) : MS := (mSeq (mIfS (mBl (mCmp .Lt (mLenO (ownG Y "__len__") (mConsA false (mVar 3) mNil)) (mVar 1))) (mSeq (mSet false 5 (mMeth (methAlts "join") (ownG Y "join") "join" (mVal (.str "")) (mConsA false (l2__law_any_names Y) mNil))) (mSeq (mIfS (mAndT (mBl (mCmp .NotIn (mVar 5) (mVar 3))) (mBl (mCmp .NotIn (mVar 5) (mCall 0 (Y.call "_law_barred") mNil)))) (mSeq (mDrop (mMeth (methAlts "append") (ownG Y "append") "append" (mVar 3) (mConsA false (mVar 5) mNil))) mNext) mNext) mNext)) mNext) mNext)
def b3__law_any_names (Y : Dy) : MS := (mFor (mIRng1 (mConsA false (mVal (.int (30))) mNil)) (gN 4) (t3__law_any_names Y))
def m__law_any_names (Y : Dy) : MS := (mSeq (mAsg (gT 2 (gsCons (gN 2) (gsCons (gN 3) gsNil))) (mTup (mConsA false (mVal (.str "abcdefghijklmnopqrstuvwxyz")) (mConsA true (mLst mNil) mNil)))) (mSeq (b3__law_any_names Y) (mSeq (mRet (mSlice (mBin .Add (mVar 3) (l1__law_any_names Y)) mNoPart (mPart (mVar 1)))) mNext)))
theorem tr__law_any_names (Y : Dy) : trS depth (f__law_any_names.tc G Y) f__law_any_names.body = m__law_any_names Y := by kernel_rfl
theorem c__law_any_names (k : Nat) (ds : List D) (M : Mem) : (mkDy G T (k + 1)).call "_law_any_names" ds M = gcR M.length (runS (m__law_any_names (mkDy G T k) (startE ["pen", "many", "signs", "found", "k", "name", "at"] ds) M)) := by
  have h : T.fn ("_law_any_names" : Str) = some f__law_any_names := by kernel_rfl
  show (match T.fn ("_law_any_names" : Str) with
    | some d => runF G (mkDy G T k) d ds M
    | none => .stuck) = _
  rw [h]
  show runF G (mkDy G T k) f__law_any_names ds M = _
  unfold runF
  rw [tr__law_any_names]
  rfl
/-- _law_wide_fact -/
def l1__law_wide_fact (Y : Dy) : ME := (mLc (mIAnyO itG (mVar 1)) (gN 6) (mBl (mCmp .NotEq (mVar 6) (mVar 3))) (mA false (mVar 6)) [6])
def m__law_wide_fact (Y : Dy) : MS := (mSeq (mAsg (gT 3 (gsCons (gN 2) (gsCons (gN 3) (gsCons (gN 4) gsNil)))) (mTup (mConsA false (mCall 2 (Y.call "_law_draw") (mConsA false (mVar 0) (mConsA false (mVal (.int (9))) mNil))) (mConsA false (mCall 2 (Y.call "_law_pick") (mConsA false (mVar 0) (mConsA false (mVar 1) mNil))) (mConsA false (mCall 2 (Y.call "_law_pick") (mConsA false (mVar 0) (mConsA false (mLst (mConsA false (mVal (.int (2))) (mConsA false (mVal (.int (4))) (mConsA false (mVal (.int (8))) mNil)))) mNil))) mNil))))) (mSeq (mSet false 5 (l1__law_wide_fact Y)) (mSeq (mIfS (mOrT (mBl (mCmp .Eq (mVar 5) (mLst mNil))) (mBl (mCmp .Eq (mVar 2) (mVal (.int (0)))))) (mSeq (mRet (mTup (mConsA false (mVal (.str "by")) (mConsA false (mVar 3) (mConsA false (mVar 4) (mConsA false (mCall 2 (Y.call "_law_draw") (mConsA false (mVar 0) (mConsA false (mVar 4) mNil))) mNil)))))) mNext) mNext) (mSeq (mSet false 7 (mCall 2 (Y.call "_law_pick") (mConsA false (mVar 0) (mConsA false (mVar 5) mNil)))) (mSeq (mIfS (mBl (mCmp .Eq (mVar 2) (mVal (.int (1))))) (mSeq (mRet (mTup (mConsA false (mVal (.str "gap")) (mConsA false (mVar 3) (mConsA false (mVar 7) (mConsA false (mVar 4) (mConsA false (mCall 2 (Y.call "_law_draw") (mConsA false (mVar 0) (mConsA false (mVar 4) mNil))) mNil))))))) mNext) mNext) (mSeq (mIfS (mBl (mCmp .Lt (mVar 2) (mVal (.int (5))))) (mSeq (mPar [8, 9, 10] (mConsA false (mBin .Sub (mCall 2 (Y.call "_law_draw") (mConsA false (mVar 0) (mConsA false (mVal (.int (61))) mNil))) (mVal (.int (30)))) (mConsA false (mBin .Add (mVal (.int (1))) (mCall 2 (Y.call "_law_draw") (mConsA false (mVar 0) (mConsA false (mVal (.int (16))) mNil)))) (mConsA false (mBin .Sub (mCall 2 (Y.call "_law_draw") (mConsA false (mVar 0) (mConsA false (mVal (.int (61))) mNil))) (mVal (.int (30)))) mNil)))) (mSeq (mRet (mTup (mConsA false (mVal (.str "apart")) (mConsA false (mVar 3) (mConsA false (mVar 8) (mConsA false (mVar 9) (mConsA false (mVar 7) (mConsA false (mVar 10) (mConsA false (mBin .Add (mVal (.int (1))) (mCall 2 (Y.call "_law_draw") (mConsA false (mVar 0) (mConsA false (mVal (.int (16))) mNil)))) mNil))))))))) mNext)) mNext) (mSeq (mSet false 11 (mCall 2 (Y.call "_law_pick") (mConsA false (mVar 0) (mConsA false (mLst (mConsA false (mVal (.int (40))) (mConsA false (mNeg (mVal (.int (40)))) (mConsA false (mVal (.int (0))) (mConsA false (mBin .Sub (mCall 2 (Y.call "_law_draw") (mConsA false (mVar 0) (mConsA false (mVal (.int (81))) mNil))) (mVal (.int (40)))) (mConsA false (mBin .Sub (mCall 2 (Y.call "_law_draw") (mConsA false (mVar 0) (mConsA false (mVal (.int (81))) mNil))) (mVal (.int (40)))) mNil)))))) mNil)))) (mSeq (mRet (mTup (mConsA false (mCall 2 (Y.call "_law_pick") (mConsA false (mVar 0) (mConsA false (mLst (mConsA false (mVal (.str "from")) (mConsA false (mVal (.str "from")) (mConsA false (mVal (.str "upto")) (mConsA false (mVal (.str "upto")) (mConsA false (mVal (.str "is")) mNil)))))) mNil))) (mConsA false (mVar 3) (mConsA false (mVar 7) (mConsA false (mVar 11) mNil)))))) mNext))))))))
theorem tr__law_wide_fact (Y : Dy) : trS depth (f__law_wide_fact.tc G Y) f__law_wide_fact.body = m__law_wide_fact Y := by kernel_rfl
theorem c__law_wide_fact (k : Nat) (ds : List D) (M : Mem) : (mkDy G T (k + 1)).call "_law_wide_fact" ds M = gcR M.length (runS (m__law_wide_fact (mkDy G T k) (startE ["pen", "pointers", "way", "one", "m", "others", "name", "two", "k", "a", "e", "number"] ds) M)) := by
  have h : T.fn ("_law_wide_fact" : Str) = some f__law_wide_fact := by kernel_rfl
  show (match T.fn ("_law_wide_fact" : Str) with
    | some d => runF G (mkDy G T k) d ds M
    | none => .stuck) = _
  rw [h]
  show runF G (mkDy G T k) f__law_wide_fact ds M = _
  unfold runF
  rw [tr__law_wide_fact]
  rfl
/-- _law_wide_facts -/
def t1__law_wide_facts (Y : Dy) : MS := (mSeq (mSet false 5 (mCall 2 (Y.call "_law_wide_fact") (mConsA false (mVar 0) (mConsA false (mVar 1) mNil)))) (mSeq (mIfS (mBl (mCmp .NotIn (mVar 5) (mVar 3))) (mSeq (mDrop (mMeth (methAlts "append") (ownG Y "append") "append" (mVar 3) (mConsA false (mVar 5) mNil))) mNext) mNext) mNext))
def b1__law_wide_facts (Y : Dy) : MS := (mFor (mIRng1 (mConsA false (mVar 2) mNil)) (gN 4) (t1__law_wide_facts Y))
def m__law_wide_facts (Y : Dy) : MS := (mSeq (mSet true 3 (mLst mNil)) (mSeq (b1__law_wide_facts Y) (mSeq (mRet (mVar 3)) mNext)))
theorem tr__law_wide_facts (Y : Dy) : trS depth (f__law_wide_facts.tc G Y) f__law_wide_facts.body = m__law_wide_facts Y := by kernel_rfl
theorem c__law_wide_facts (k : Nat) (ds : List D) (M : Mem) : (mkDy G T (k + 1)).call "_law_wide_facts" ds M = gcR M.length (runS (m__law_wide_facts (mkDy G T k) (startE ["pen", "pointers", "many", "found", "k", "fact"] ds) M)) := by
  have h : T.fn ("_law_wide_facts" : Str) = some f__law_wide_facts := by kernel_rfl
  show (match T.fn ("_law_wide_facts" : Str) with
    | some d => runF G (mkDy G T k) d ds M
    | none => .stuck) = _
  rw [h]
  show runF G (mkDy G T k) f__law_wide_facts ds M = _
  unfold runF
  rw [tr__law_wide_facts]
  rfl
/-- _law_number -/
def m__law_number (Y : Dy) : MS := (mSeq (mRet (mAnd (mIsi (fun k => isT_int.lookup k) (mVar 0)) (mNot (mIsi (fun k => isT_bool.lookup k) (mVar 0))))) mNext)
theorem tr__law_number (Y : Dy) : trS depth (f__law_number.tc G Y) f__law_number.body = m__law_number Y := by kernel_rfl
theorem c__law_number (k : Nat) (ds : List D) (M : Mem) : (mkDy G T (k + 1)).call "_law_number" ds M = gcR M.length (runS (m__law_number (mkDy G T k) (startE ["told"] ds) M)) := by
  have h : T.fn ("_law_number" : Str) = some f__law_number := by kernel_rfl
  show (match T.fn ("_law_number" : Str) with
    | some d => runF G (mkDy G T k) d ds M
    | none => .stuck) = _
  rw [h]
  show runF G (mkDy G T k) f__law_number ds M = _
  unfold runF
  rw [tr__law_number]
  rfl
/-- _law_pairs_of -/
def t1__law_pairs_of (Y : Dy) : MS := (mSeq (mDrop (mMeth (methAlts "append") (ownG Y "append") "append" (mVar 1) (mConsA false (mTup (mConsA false (mVar 2) (mConsA false (mVar 3) mNil))) mNil))) mNext)
def b1__law_pairs_of (Y : Dy) : MS := (mFor (mIAnyO itG (mVar 0)) (gN 3) (t1__law_pairs_of Y))
def t2__law_pairs_of (Y : Dy) : MS := (mSeq (b1__law_pairs_of Y) mNext)
def b2__law_pairs_of (Y : Dy) : MS := (mFor (mIAnyO itG (mVar 0)) (gN 2) (t2__law_pairs_of Y))
def m__law_pairs_of (Y : Dy) : MS := (mSeq (mSet true 1 (mLst mNil)) (mSeq (b2__law_pairs_of Y) (mSeq (mRet (mVar 1)) mNext)))
theorem tr__law_pairs_of (Y : Dy) : trS depth (f__law_pairs_of.tc G Y) f__law_pairs_of.body = m__law_pairs_of Y := by kernel_rfl
theorem c__law_pairs_of (k : Nat) (ds : List D) (M : Mem) : (mkDy G T (k + 1)).call "_law_pairs_of" ds M = gcR M.length (runS (m__law_pairs_of (mkDy G T k) (startE ["contract", "found", "one", "other"] ds) M)) := by
  have h : T.fn ("_law_pairs_of" : Str) = some f__law_pairs_of := by kernel_rfl
  show (match T.fn ("_law_pairs_of" : Str) with
    | some d => runF G (mkDy G T k) d ds M
    | none => .stuck) = _
  rw [h]
  show runF G (mkDy G T k) f__law_pairs_of ds M = _
  unfold runF
  rw [tr__law_pairs_of]
  rfl
/-- law -/
def l1_law (Y : Dy) : ME := (mLc (mIAnyO itG (mVar 5)) (gN 11) mYes (mA false (mTup (mConsA false (mVar 12) (mConsA false (mVar 11) mNil)))) [11])
def l2_law (Y : Dy) : ME := (mLc (mIAnyO itG (mVar 5)) (gN 12) mYes (mA false (l1_law Y)) [12])
def l3_law (Y : Dy) : ME := (mLc (mIAnyO itG (mVar 9)) (gN 10) mYes (mA false (mVar 10)) [10])
def l4_law (Y : Dy) : ME := (mLc (mIAnyO itG (mVar 4)) (gN 8) mYes (mA false (mBlt intS (mConsA false (mCall 1 (Y.call "_law_far_of") (mConsA false (mVar 8) mNil)) mNil))) [8])
def l5_law (Y : Dy) : ME := (mLc (mIAnyO itG (mVar 4)) (gN 8) mYes (mA false (mCall 1 (Y.call "_law_fact_text") (mConsA false (mVar 8) mNil))) [8])
def t6_law (Y : Dy) : MS := (mSeq (mSet false 3 (mCall 2 (Y.call "_law_any_names") (mConsA false (mVar 1) (mConsA false (mBin .Add (mVal (.int (1))) (mCall 2 (Y.call "_law_draw") (mConsA false (mVar 1) (mConsA false (mVal (.int (3))) mNil)))) mNil)))) (mSeq (mSet false 4 (mCall 3 (Y.call "_law_wide_facts") (mConsA false (mVar 1) (mConsA false (mVar 3) (mConsA false (mCall 2 (Y.call "_law_pick") (mConsA false (mVar 1) (mConsA false (mLst (mConsA false (mVal (.int (0))) (mConsA false (mVal (.int (1))) (mConsA false (mVal (.int (12))) (mConsA false (mVal (.int (12))) (mConsA false (mCall 2 (Y.call "_law_draw") (mConsA false (mVar 1) (mConsA false (mVal (.int (13))) mNil))) mNil)))))) mNil))) mNil))))) (mSeq (mAsg (gT 3 (gsCons (gN 5) (gsCons (gN 6) (gsCons (gN 7) gsNil)))) (mTup (mConsA false (l5_law Y) (mConsA false (mCall 1 (Y.call "_law_facts_text") (mConsA false (mVar 4) mNil)) (mConsA true (mBlt (listO itG (ownG Y "__len__")) (mConsA false (mVar 3) mNil)) mNil))))) (mSeq (mSet false 9 (mMake false "Contract" 3 (Y.meth "Contract" "__init__") (mConsA false (mIf (mBl (mCmp .Lt (mVar 2) (mVal (.int (2))))) (mVar 7) (mBlt tupleS (mConsA false (mVar 7) mNil))) (mConsA false (mVar 6) mNil)))) (mSeq (mDrop (mMeth (methAlts "append") (ownG Y "append") "append" (mVar 7) (mConsA false (mVal (.str "other")) mNil))) (mSeq (mIfS (mOrT (mBl (mCmp .NotEq (mAttrX (okB G) (oxB G) "pointers" (mVar 9)) (mBlt tupleS (mConsA false (mVar 3) mNil)))) (mOrT (mBl (mCmp .NotEq (mAttrX (okB G) (oxB G) "lines" (mVar 9)) (mBlt tupleS (mConsA false (mVar 5) mNil)))) (mBl (mCmp .NotEq (mAttrX (okB G) (oxB G) "text" (mVar 9)) (mVar 6))))) (mSeq (mRet (mVal (.bl false))) mNext) mNext) (mSeq (mIfS (mOrT (mNotT (mTru (mIsi (fun k => isT_tuple.lookup k) (mAttrX (okB G) (oxB G) "pointers" (mVar 9))))) (mNotT (mTru (mIsi (fun k => isT_tuple.lookup k) (mAttrX (okB G) (oxB G) "lines" (mVar 9)))))) (mSeq (mRet (mVal (.bl false))) mNext) mNext) (mSeq (mIfS (mOrT (mBl (mCmp .NotEq (mAttrX (okB G) (oxB G) "far" (mVar 9)) (mBlt maxS (mConsA false (mBin .Add (mLst (mConsA false (mVal (.int (0))) mNil)) (l4_law Y)) mNil)))) (mNotT (mTru (mCall 1 (Y.call "_law_number") (mConsA false (mAttrX (okB G) (oxB G) "far" (mVar 9)) mNil))))) (mSeq (mRet (mVal (.bl false))) mNext) mNext) (mSeq (mIfS (mOrT (mBl (mCmp .NotEq (mAttrX (okB G) (oxB G) "modulus" (mVar 9)) (mCall 1 (Y.call "_law_modulus") (mConsA false (mVar 4) mNil)))) (mNotT (mTru (mCall 1 (Y.call "_law_number") (mConsA false (mAttrX (okB G) (oxB G) "modulus" (mVar 9)) mNil))))) (mSeq (mRet (mVal (.bl false))) mNext) mNext) (mSeq (mIfS (mOrT (mBl (mCmp .NotEq (mLenO (ownG Y "__len__") (mConsA false (mVar 9) mNil)) (mLenO (ownG Y "__len__") (mConsA false (mVar 5) mNil)))) (mOrT (mBl (mCmp .NotEq (l3_law Y) (mVar 5))) (mBl (mCmp .NotEq (mBlt (listO itG (ownG Y "__len__")) (mConsA false (mVar 9) mNil)) (mVar 5))))) (mSeq (mRet (mVal (.bl false))) mNext) mNext) (mSeq (mIfS (mBl (mCmp .NotEq (mCall 1 (Y.call "_law_pairs_of") (mConsA false (mVar 9) mNil)) (mBlt sum2S (mConsA false (l2_law Y) (mConsA false (mLst mNil) mNil))))) (mSeq (mRet (mVal (.bl false))) mNext) mNext) mNext)))))))))))
def b6_law (Y : Dy) : MS := (mFor (mIRng1 (mConsA false (mVal (.int (3))) mNil)) (gN 2) (t6_law Y))
def m_law (Y : Dy) : MS := (mSeq (mSet true 1 (mCall 1 (Y.call "_law_begun_pen") (mConsA false (mVar 0) mNil))) (mSeq (b6_law Y) (mSeq (mRet (mVal (.bl true))) mNext)))
theorem tr_law (Y : Dy) : trS depth (f_law.tc G Y) f_law.body = m_law Y := by kernel_rfl
theorem c_law (k : Nat) (ds : List D) (M : Mem) : (mkDy G T (k + 1)).call "law" ds M = gcR M.length (runS (m_law (mkDy G T k) (startE ["script", "pen", "turn", "pointers", "facts", "lines", "text", "listed", "fact", "contract", "line", "other", "one"] ds) M)) := by
  have h : T.fn ("law" : Str) = some f_law := by kernel_rfl
  show (match T.fn ("law" : Str) with
    | some d => runF G (mkDy G T k) d ds M
    | none => .stuck) = _
  rw [h]
  show runF G (mkDy G T k) f_law ds M = _
  unfold runF
  rw [tr_law]
  rfl
/-- Contract.__init__ -/
def l1_Contract_init (Y : Dy) : ME := (mLc (mIAnyO itG (mAttrX (okB G) (oxB G) "told" (mVar 0))) (gN 3) mYes (mA false (mCall 1 (Y.call "modulus_of") (mConsA false (mVar 3) mNil))) [3])
def l2_Contract_init (Y : Dy) : ME := (mLc (mIAnyO itG (mAttrX (okB G) (oxB G) "told" (mVar 0))) (gN 3) mYes (mA false (mCall 1 (Y.call "far_of") (mConsA false (mVar 3) mNil))) [3])
def m_Contract_init (Y : Dy) : MS := (mSeq (mDrop (mCall 1 (Y.call "check_pointers") (mConsA false (mVar 1) mNil))) (mSeq (mFld false (okB G) "pointers" (mBlt tupleS (mConsA false (mVar 1) mNil)) (mVar 0)) (mSeq (mFld false (okB G) "text" (mVar 2) (mVar 0)) (mSeq (mFld false (okB G) "lines" (mBlt tupleS (mConsA false (mCall 1 (Y.call "lines_of") (mConsA false (mVar 2) mNil)) mNil)) (mVar 0)) (mSeq (mFld false (okB G) "told" (mCall 2 (Y.call "read_facts") (mConsA false (mAttrX (okB G) (oxB G) "pointers" (mVar 0)) (mConsA false (mAttrX (okB G) (oxB G) "lines" (mVar 0)) mNil))) (mVar 0)) (mSeq (mFld false (okB G) "far" (mCall 2 (Y.call "greatest") (mConsA false (l2_Contract_init Y) (mConsA false (mVal (.int (0))) mNil))) (mVar 0)) (mSeq (mFld false (okB G) "modulus" (mCall 2 (Y.call "greatest") (mConsA false (l1_Contract_init Y) (mConsA false (mVal (.int (1))) mNil))) (mVar 0)) mNext)))))))
theorem tr_Contract_init (Y : Dy) : trS depth (f_Contract_init.tc G Y) f_Contract_init.body = m_Contract_init Y := by kernel_rfl
theorem c_Contract_init (k : Nat) (ds : List D) (M : Mem) : (mkDy G T (k + 1)).meth "Contract" "__init__" ds M = gcR M.length (runS (m_Contract_init (mkDy G T k) (startE ["self", "pointers", "text", "fact"] ds) M)) := by
  have h : T.me ("Contract" : Str) ("__init__" : Str) = some f_Contract_init := by kernel_rfl
  show (match T.me ("Contract" : Str) ("__init__" : Str) with
    | some d => runF G (mkDy G T k) d ds M
    | none => .stuck) = _
  rw [h]
  show runF G (mkDy G T k) f_Contract_init ds M = _
  unfold runF
  rw [tr_Contract_init]
  rfl
/-- Contract.__len__ -/
def m_Contract_len (Y : Dy) : MS := (mSeq (mRet (mLenO (ownG Y "__len__") (mConsA false (mAttrX (okB G) (oxB G) "lines" (mVar 0)) mNil))) mNext)
theorem tr_Contract_len (Y : Dy) : trS depth (f_Contract_len.tc G Y) f_Contract_len.body = m_Contract_len Y := by kernel_rfl
theorem c_Contract_len (k : Nat) (ds : List D) (M : Mem) : (mkDy G T (k + 1)).meth "Contract" "__len__" ds M = gcR M.length (runS (m_Contract_len (mkDy G T k) (startE ["self"] ds) M)) := by
  have h : T.me ("Contract" : Str) ("__len__" : Str) = some f_Contract_len := by kernel_rfl
  show (match T.me ("Contract" : Str) ("__len__" : Str) with
    | some d => runF G (mkDy G T k) d ds M
    | none => .stuck) = _
  rw [h]
  show runF G (mkDy G T k) f_Contract_len ds M = _
  unfold runF
  rw [tr_Contract_len]
  rfl
/-- Contract.__iter__ -/
def m_Contract_iter (Y : Dy) : MS := (mSeq (mRet mStuck) mNext)
theorem tr_Contract_iter (Y : Dy) : trS depth (f_Contract_iter.tc G Y) f_Contract_iter.body = m_Contract_iter Y := by kernel_rfl
theorem c_Contract_iter (k : Nat) (ds : List D) (M : Mem) : (mkDy G T (k + 1)).meth "Contract" "__iter__" ds M = gcR M.length (runS (m_Contract_iter (mkDy G T k) (startE ["self"] ds) M)) := by
  have h : T.me ("Contract" : Str) ("__iter__" : Str) = some f_Contract_iter := by kernel_rfl
  show (match T.me ("Contract" : Str) ("__iter__" : Str) with
    | some d => runF G (mkDy G T k) d ds M
    | none => .stuck) = _
  rw [h]
  show runF G (mkDy G T k) f_Contract_iter ds M = _
  unfold runF
  rw [tr_Contract_iter]
  rfl
end Pc

set_option Elab.async false
set_option linter.all false
set_option maxRecDepth 100000
set_option maxHeartbeats 4000000
set_option autoImplicit false
namespace Pc
open PySem PySem.Spec PyProof.Rows L2 TL
local macro_rules | `(tactic| simp! only [$ls,*]) => `(tactic| simp -implicitDefEqProofs only [bind_ok, bnd_ok, bnd_exc, map_ok, toS_ok, tos_ok, tos_exc, seq_nx, seq_rt, sq_nx, sq_rt, sq_bk, sq_ct, sq_exc, runS_nx, runS_rt, runS_exc, noX_ok, d_val, d_own, al_val, al_f, alK_val, alK_f, alK_t, e_seq, e_next, e_bk, e_ct, e_ret, e_retN, e_ifS, e_set, e_drop, e_A, e_D, e_val, e_var0, e_varS, e_nil, e_cons, e_cmp, e_bin, e_blt, e_call, e_bl, blK_b, e_tru, trK_b, e_notT, e_andT, e_orT, e_and, andK_b, e_or, orK_b, e_not, notK_b, e_neg, negK_i, e_if, e_chain, chK_b, e_tup, e_lst, e_idx, e_attrX, e_slice, e_noP, e_partE, ptK2_i, e_star, starK_lst, starK_tup, e_meth, ma_join, ma_split, ma_append, ma_pop, ma_index, ma_extend, meK_str, meK_lst, sl_tup, sl_lst, e_lc, e_for, e_ianyO, e_ienu, e_irng1, e_irng2, e_izip, e_par, e_asg, e_sub, e_fld, e_lenO, e_dict, e_pn, e_pc, e_dnew, e_isi, e_make, e_raise, rsK_none, gcE_same, gcK_same, gcK_own0, o_dk, stK_s, eq_int, ne_int, eq_str, ne_str, sOk_lit, sOk_numS, lt_int, le_int, gt_int, ge_int, in_sign, is_non, isNot_non, is_tup, isNot_tup, is_int, isNot_int, lenO_tup, lenO_ctup, lenO_lst, lenO_scr, add_int, sub_int, int_int, abs_int, tuple_lst, tuple_tup, listO_lst, listO_tup, all_bls, o_lst, max_two, min_two, anyO_str, anyO_tup, anyO_ctup, anyO_lst, enu_tup, enu_lst, startE, w_ok, w_exc, ↓w_bnd, ↓w_bind, ↓ws_tos, ↓ws_sq, ↓ws_toS, ↓ws_seq, w_map, w_noX, w_run, w_al, w_ite, ws_nx, ws_rt, ws_bk, ws_ct, ws_exc, ws_ite, List.map_cons, List.map_nil, List.length_cons, List.length_nil, List.replicate, List.nil_append, List.cons_append, List.set_cons_zero, List.set_cons_succ, Nat.reduceAdd, Nat.reduceSub, if_true, if_false, Bool.false_eq_true, ite_true, ite_false, Bool.not_true, Bool.not_false, decide_true, decide_false, true_or, or_true, false_or, or_false, Nat.reduceEqDiff, Nat.reduceLT, Int.reduceLT, Int.reduceLE, or_self, sz0, sz1, sz2, sz3, sz4, sz5, sz6, sz7, sz8, sz9, ix_tup0, ix_tup1, ix_tup2, ix_tup3, ix_tup4, ix_tup5, ix_lst0, ix_lst1, ix_lst2, ix_lst3, ix_lst4, ix_lst5, ix_ctup0, ix_ctup1, ix_ctup2, ix_ctup3, ix_ctup4, ix_ctup5, $ls,*])
/-! K1: the pen, draws, picks -/
def pen (ns : List Int) (t l : Int) : MO := .dk [.inr "cells", .inr "turn", .inr "left"] [.lst (ns.map D.int), .int t, .int l]
theorem sh_ints (ns : List Int) : shD 64 (.lst (ns.map D.int)) = true := by unfold shD; exact shL_of (fun _ => by unfold shD; rfl) ns
section
variable {R M : Mem} {ns : List Int} {t l v : Int}
theorem px_left : idxS (.ref 0) (.str "left") (pen ns t l :: R) = .ok (.val (.int l)) (pen ns t l :: R) := by kernel_rfl
theorem px_turn : idxS (.ref 0) (.str "turn") (pen ns t l :: R) = .ok (.val (.int t)) (pen ns t l :: R) := by kernel_rfl
theorem px_cells : idxS (.ref 0) (.str "cells") (pen ns t l :: R) = .ok (.val (.lst (ns.map D.int))) (pen ns t l :: R) := by kernel_rfl
theorem ps_left : setS (.ref 0) (.str "left") (.int v) (pen ns t l :: R) = some (pen ns t v :: R) := by kernel_rfl
theorem ps_turn : setS (.ref 0) (.str "turn") (.int v) (pen ns t l :: R) = some (pen ns v l :: R) := by kernel_rfl
theorem gc_pen {d : D} {t2 l2 : Int} : gcR (R.length + 1) (.ok (.val d) (pen ns t2 l2 :: R)) = .ok (.val d) (pen ns t2 l2 :: R) := gc_same d (pen ns t2 l2 :: R)
theorem cl_pen (n : Nat) : clO n (pen ns t l) = true := by
  show (clL n (ns.map D.int) && (clD n (.int t) && (clD n (.int l) && true))) = true
  rw [clL_ints]
  rfl
theorem Clo.pen (h : M.all (clO (M.length + 1)) = true) : Clo (pen ns t l :: M) := by
  unfold Clo
  rw [List.all_cons, List.length_cons, cl_pen, h]
  rfl
theorem ne_cells (ns : List Int) : cmpS .NotEq (.lst (ns.map D.int)) (.lst []) M = .ok (.val (.bl (!ns.isEmpty))) M := by
  cases ns with
  | nil => exact ne_self (by unfold shD; unfold shL; rfl)
  | cons n ns =>
    obtain ⟨p, h1, h2, h3⟩ := shD_py 64 _ (sh_ints (n :: ns))
    have e : eqO (.lst ((n :: ns).map D.int)) (.lst []) M = some false := by
      unfold eqO
      rw [py_of h1, show (D.lst []).py M = some (.list []) from rfl]
      dsimp only
      rw [if_pos ⟨shaped_of h2 h3 (Nat.le_refl _), by decide +kernel⟩]
      have : ∃ q l, p = .list (q :: l) := by
        unfold D.py0 at h1
        rw [List.map_cons, pyL] at h1
        cases hp : pyL (ns.map D.int) with
        | none => rw [hp] at h1; simp [D.py0] at h1
        | some l => rw [hp] at h1; simp [D.py0] at h1; exact ⟨_, _, h1.symm⟩
      obtain ⟨q, l, rfl⟩ := this
      simp [PyData.eqv, PyData.eqvAll]
    show rB ((eqO _ _ M).map not) M = _
    rw [e]; rfl
theorem ne_nil : cmpS .NotEq (.lst []) (.lst []) M = .ok (.val (.bl false)) M := ne_cells []
theorem at_lst {xs : List D} {i : Int} (h : 0 ≤ i) (h2 : i < xs.length) : ∃ x ∈ xs, idxS (.lst xs) (.int i) M = .ok (.val x) M := by
  have hlt : i.toNat < xs.length := by omega
  refine ⟨xs[i.toNat], List.getElem_mem hlt, ?_⟩
  have e : atI xs i = some xs[i.toNat] := by
    unfold atI ixN
    rw [if_pos h, if_pos (by omega), Option.bind_some, List.getElem?_eq_getElem hlt]
  show oV (atI xs i) M = _
  rw [e]
  rfl
theorem at_cell {i : Int} (h : 0 ≤ i) (h2 : i < ns.length) : ∃ c : Int, idxS (.lst (ns.map D.int)) (.int i) M = .ok (.val (.int c)) M := by
  obtain ⟨x, hx, e⟩ := at_lst (M := M) (xs := ns.map D.int) h (by rw [List.length_map]; exact h2)
  obtain ⟨c, _, rfl⟩ := List.mem_map.mp hx
  exact ⟨c, e⟩
theorem pow_18 : binS .Pow (.int 10) (.int 18) M = .ok (.val (.int (10 ^ 18))) M := by kernel_rfl
theorem sp_draw (k : Nat) {s : Int} (hs : 0 < s) (hs2 : s.natAbs.log2 < 9000) (ht : 0 ≤ t) (ht2 : t < 2 ^ 40) :
    ∃ r t' l', (mkDy G T (k + 1)).call "_law_draw" [.ref 0, .int s] (pen ns t l :: R) = .ok (.val (.int r)) (pen ns t' l' :: R) ∧ 0 ≤ r ∧ r < s ∧ 0 ≤ t' ∧ t' ≤ t + 1 := by
  have ne : s ≠ 0 := by omega
  rw [c__law_draw]
  unfold m__law_draw
  by_cases h0 : 0 < l
  · refine ⟨l % s, t, l / s, ?_, Int.emod_nonneg _ ne, Int.emod_lt_of_pos _ hs, ht, by omega⟩
    simp! only [px_left, decide_eq_true h0, mod_int hs, div_int ⟨hs, hs2⟩, ps_left, gc_pen]
  · have m1 : ∀ M, binS .Mult (.int 61) (.int t) M = .ok (.val (.int (61 * t))) M := fun M => mul_int (.inl (by decide))
    have m2 : ∀ x M, binS .Mult (.int (x % 4294967087)) (.int 48611) M = .ok (.val (.int (x % 4294967087 * 48611))) M := fun x M => mul_int (.inr (.inl (by decide)))
    have m4 : ∀ j M, binS .Mult (.int t) (.int j) M = .ok (.val (.int (t * j))) M := fun j M => mul_int (.inl ⟨by omega, by omega⟩)
    have m5 : ∀ x j M, binS .Mult (.int (x % 4294967029)) (.int j) M = .ok (.val (.int (x % 4294967029 * j))) M := fun x j M => mul_int (.inl ⟨by omega, by omega⟩)
    have m6 : ∀ x j M, binS .Mult (.int (x % 4294966997)) (.int j) M = .ok (.val (.int (x % 4294966997 * j))) M := fun x j M => mul_int (.inl ⟨by omega, by omega⟩)
    have m7 : ∀ j M, binS .Mult (.int 30427) (.int j) M = .ok (.val (.int (30427 * j))) M := fun j M => mul_int (.inl (by decide))
    have m8 : ∀ j M, binS .Mult (.int 19) (.int j) M = .ok (.val (.int (19 * j))) M := fun j M => mul_int (.inl (by decide))
    have m9 : ∀ x j M, binS .Mult (.int (x % 4294966981)) (.int j) M = .ok (.val (.int (x % 4294966981 * j))) M := fun x j M => mul_int (.inl ⟨by omega, by omega⟩)
    have d1 : ∀ x M, binS .Mod (.int x) (.int 4294967087) M = .ok (.val (.int (x % 4294967087))) M := fun x M => mod_int (by decide)
    have d2 : ∀ x M, binS .Mod (.int x) (.int 4294967029) M = .ok (.val (.int (x % 4294967029))) M := fun x M => mod_int (by decide)
    have d3 : ∀ x M, binS .Mod (.int x) (.int 4294966997) M = .ok (.val (.int (x % 4294966997))) M := fun x M => mod_int (by decide)
    have d4 : ∀ x M, binS .Mod (.int x) (.int 4294966981) M = .ok (.val (.int (x % 4294966981))) M := fun x M => mod_int (by decide)
    have d5 : ∀ x M, binS .Mod (.int x) (.int 4294966943) M = .ok (.val (.int (x % 4294966943))) M := fun x M => mod_int (by decide)
    have d6 : ∀ x M, binS .FloorDiv (.int x) (.int 64) M = .ok (.val (.int (x / 64))) M := fun x M => div_int (by decide)
    have f0 : decide (0 < l) = false := decide_eq_false h0
    by_cases hn : ns = []
    · subst hn
      have g0 : decide (t < 0) = false := decide_eq_false (by omega)
      simp! only [px_left, px_turn, px_cells, f0, ps_turn, m1, ne_nil, g0, m2, m4, m5, m6, m7, m8, m9, d1, d2, d3, d4, d5, d6, mod_int hs, gc_pen, Int.natCast_zero]
      exact ⟨_, _, _, rfl, Int.emod_nonneg _ ne, Int.emod_lt_of_pos _ hs, by omega, by omega⟩
    · have hp : 0 < ns.length := List.length_pos_iff.mpr hn
      have he : ns.isEmpty = false := by cases ns <;> simp_all
      have hq : (0 : Int) < (ns.length : Nat) := by omega
      obtain ⟨c, hc⟩ := at_cell (M := pen ns (t + 1) l :: R) (ns := ns) (i := t % (ns.length : Nat)) (Int.emod_nonneg _ (by omega)) (Int.emod_lt_of_pos _ hq)
      by_cases hb : t < (ns.length : Nat)
      · by_cases hbig : (10 : Int) ^ 18 ≤ (if c < 0 then -c else c)
        · simp! only [px_left, px_turn, px_cells, f0, ps_turn, m1, ne_cells, he, List.length_map, mod_int hq, hc, decide_eq_true hb, pow_18, decide_eq_true hbig, div_int ⟨hs, hs2⟩, ps_left, mod_int hs, gc_pen]
          exact ⟨_, _, _, rfl, Int.emod_nonneg _ ne, Int.emod_lt_of_pos _ hs, by omega, by omega⟩
        · simp! only [px_left, px_turn, px_cells, f0, ps_turn, m1, ne_cells, he, List.length_map, mod_int hq, hc, decide_eq_true hb, pow_18, decide_eq_false hbig, m2, m4, m5, m6, m7, m8, m9, d1, d2, d3, d4, d5, d6, mod_int hs, gc_pen]
          exact ⟨_, _, _, rfl, Int.emod_nonneg _ ne, Int.emod_lt_of_pos _ hs, by omega, by omega⟩
      · simp! only [px_left, px_turn, px_cells, f0, ps_turn, m1, ne_cells, he, List.length_map, mod_int hq, hc, decide_eq_false hb, m2, m4, m5, m6, m7, m8, m9, d1, d2, d3, d4, d5, d6, mod_int hs, gc_pen]
        exact ⟨_, _, _, rfl, Int.emod_nonneg _ ne, Int.emod_lt_of_pos _ hs, by omega, by omega⟩
end
section
variable {R : Mem} {ns : List Int} {t l : Int} {Q : RV → Mem → Prop} {X : XP}
theorem lg {n k : Nat} (h : n < 2 ^ k) (hk : 0 < k) : n.log2 < k := by
  by_cases h0 : n = 0
  · subst h0
    simpa using hk
  · exact (Nat.log2_lt h0).mpr h
/-- a draw, asked backwards -/
theorem w_draw (k : Nat) {s : Int} (hs : 0 < s ∧ s < 2 ^ 100) (ht : 0 ≤ t ∧ t < 2 ^ 40) (h : ∀ r t' l', 0 ≤ r ∧ r < s → 0 ≤ t' ∧ t' ≤ t + 1 → Q (.val (.int r)) (pen ns t' l' :: R)) : Wp ((mkDy G T (k + 1)).call "_law_draw" [.ref 0, .int s] (pen ns t l :: R)) Q X := by
  obtain ⟨r, t', l', e, r0, r1, t0, t1⟩ := sp_draw (R := R) (ns := ns) (l := l) (t := t) k hs.1 (Nat.lt_trans (lg (k := 100) (by omega) (by decide)) (by decide)) ht.1 ht.2
  exact wp_of_eq e (h r t' l' ⟨r0, r1⟩ ⟨t0, t1⟩)
theorem w_pick (k : Nat) {xs : List D} (h0 : 0 < xs.length ∧ xs.length < 2 ^ 90) (ht : 0 ≤ t ∧ t < 2 ^ 40) (h : ∀ x t' l', x ∈ xs → 0 ≤ t' ∧ t' ≤ t + 1 → Q (.val x) (pen ns t' l' :: R)) : Wp ((mkDy G T (k + 2)).call "_law_pick" [.ref 0, .lst xs] (pen ns t l :: R)) Q X := by
  obtain ⟨r, t', l', e, r0, r1, t0, t1⟩ := sp_draw (R := R) (ns := ns) (l := l) (t := t) k (s := (xs.length : Nat)) (by omega) (Nat.lt_trans (lg (k := 100) (by omega) (by decide)) (by decide)) ht.1 ht.2
  obtain ⟨x, hx, ex⟩ := at_lst (M := pen ns t' l' :: R) (xs := xs) r0 r1
  refine wp_of_eq (a := .val x) (M := pen ns t' l' :: R) ?_ (h x t' l' hx ⟨t0, t1⟩)
  rw [c__law_pick]
  unfold m__law_pick
  simp! only [e, ex, gc_pen]
theorem cut63 {ns : List Int} (h : ns.length ≤ 63) : cutL ns none (some 63) = ns := by
  unfold cutL
  rw [HT.sIx_none, show (some 63 : Option Int) = some ((63 : Nat) : Int) from rfl, HT.sIx_nat, List.drop_zero, List.take_of_length_le (by omega)]
theorem sp_begun (k : Nat) {ns : List Int} (h : ns.length ≤ 63) : (mkDy G T (k + 1)).call "_law_begun_pen" [.scr ns] [] = .ok (.own (pen ns 0 0)) [] := by
  have e1 : slS (.scr ns) none (some 63) [] = .ok (.own (.lst (ns.map D.int))) [] := by
    show R.ok (RV.own (.lst ((cutL ns none (some 63)).map D.int))) [] = _
    rw [cut63 h]
  have e2 : ∀ a : D, dkK [(.str "cells", a), (.str "turn", .int 0), (.str "left", .int 0)] [] = .ok (.own (.dk [.inr "cells", .inr "turn", .inr "left"] [a, .int 0, .int 0])) [] := fun a => by kernel_rfl
  rw [c__law_begun_pen]
  unfold m__law_begun_pen
  simp! only [e1, e2]
  exact gc_own' (pen ns 0 0) []
end

end Pc

set_option Elab.async false
set_option linter.all false
set_option maxRecDepth 100000
set_option maxHeartbeats 4000000
set_option autoImplicit false
namespace Pc
open PySem PySem.Spec PyProof.Rows L2 TL
local macro_rules | `(tactic| simp! only [$ls,*]) => `(tactic| simp -implicitDefEqProofs only [bind_ok, bnd_ok, bnd_exc, map_ok, toS_ok, tos_ok, tos_exc, seq_nx, seq_rt, sq_nx, sq_rt, sq_bk, sq_ct, sq_exc, runS_nx, runS_rt, runS_exc, noX_ok, d_val, d_own, al_val, al_f, alK_val, alK_f, alK_t, e_seq, e_next, e_bk, e_ct, e_ret, e_retN, e_ifS, e_set, e_drop, e_A, e_D, e_val, e_var0, e_varS, e_nil, e_cons, e_cmp, e_bin, e_blt, e_call, e_bl, blK_b, e_tru, trK_b, e_notT, e_andT, e_orT, e_and, andK_b, e_or, orK_b, e_not, notK_b, e_neg, negK_i, e_if, e_chain, chK_b, e_tup, e_lst, e_idx, e_attrX, e_slice, e_noP, e_partE, ptK2_i, e_star, starK_lst, starK_tup, e_meth, ma_join, ma_split, ma_append, ma_pop, ma_index, ma_extend, meK_str, meK_lst, sl_tup, sl_lst, e_lc, e_for, e_ianyO, e_ienu, e_irng1, e_irng2, e_izip, e_par, e_asg, e_sub, e_fld, e_lenO, e_dict, e_pn, e_pc, e_dnew, e_isi, e_make, e_raise, rsK_none, gcE_same, gcK_same, gcK_own0, o_dk, stK_s, eq_int, ne_int, eq_str, ne_str, sOk_lit, sOk_numS, lt_int, le_int, gt_int, ge_int, in_sign, is_non, isNot_non, is_tup, isNot_tup, is_int, isNot_int, lenO_tup, lenO_ctup, lenO_lst, lenO_scr, add_int, sub_int, int_int, abs_int, tuple_lst, tuple_tup, listO_lst, listO_tup, all_bls, o_lst, max_two, min_two, anyO_str, anyO_tup, anyO_ctup, anyO_lst, enu_tup, enu_lst, startE, w_ok, w_exc, ↓w_bnd, ↓w_bind, ↓ws_tos, ↓ws_sq, ↓ws_toS, ↓ws_seq, w_map, w_noX, w_run, w_al, w_ite, ws_nx, ws_rt, ws_bk, ws_ct, ws_exc, ws_ite, List.map_cons, List.map_nil, List.length_cons, List.length_nil, List.replicate, List.nil_append, List.cons_append, List.set_cons_zero, List.set_cons_succ, Nat.reduceAdd, Nat.reduceSub, if_true, if_false, Bool.false_eq_true, ite_true, ite_false, Bool.not_true, Bool.not_false, decide_true, decide_false, true_or, or_true, false_or, or_false, Nat.reduceEqDiff, Nat.reduceLT, Int.reduceLT, Int.reduceLE, or_self, sz0, sz1, sz2, sz3, sz4, sz5, sz6, sz7, sz8, sz9, ix_tup0, ix_tup1, ix_tup2, ix_tup3, ix_tup4, ix_tup5, ix_lst0, ix_lst1, ix_lst2, ix_lst3, ix_lst4, ix_lst5, ix_ctup0, ix_ctup1, ix_ctup2, ix_ctup3, ix_ctup4, ix_ctup5, $ls,*])
/-! K2: words and numbers, at any words -/
theorem tl_one (c : Nat) : tl ⟨#[c]⟩ = [c] := rfl
theorem digits_at (c : Nat) : decide (c ∈ tl (Str.ofString "0123456789")) = decide (48 ≤ c ∧ c ≤ 57) := by
  have e : tl (Str.ofString "0123456789") = [48, 49, 50, 51, 52, 53, 54, 55, 56, 57] := by decide +kernel
  rw [e]
  apply decide_eq_decide.mpr
  simp
  omega
theorem letters_at (c : Nat) : decide (c ∈ tl (Str.ofString "abcdefghijklmnopqrstuvwxyz")) = decide (97 ≤ c ∧ c ≤ 122) := by
  have e : tl (Str.ofString "abcdefghijklmnopqrstuvwxyz") = [97, 98, 99, 100, 101, 102, 103, 104, 105, 106, 107, 108, 109, 110, 111, 112, 113, 114, 115, 116, 117, 118, 119, 120, 121, 122] := by decide +kernel
  rw [e]
  apply decide_eq_decide.mpr
  simp
  omega
/-- a word of a text -/
structure Wd (w : Str) : Prop where
  ok : sOk w
  sz : w.length + 2 ≤ sizeLine
theorem Wd.le {w : Str} (h : Wd w) : w.length ≤ sizeLine := by have := h.sz; omega
theorem Wd.of {w v : Str} (h : Wd w) (h2 : ∀ c ∈ tl v, c ∈ tl w) (h3 : v.length ≤ w.length) : Wd v := by
  refine ⟨?_, by have := h.sz; omega⟩
  have := h.ok
  unfold sOk PyData.strOk at this ⊢
  rw [← Array.all_toList, List.all_eq_true] at this ⊢
  exact fun c hc => this c (h2 c hc)
theorem all_id' {l : List Nat} {p : Nat → Bool} : ((l.map p).all id) = l.all p := by rw [List.all_map]; rfl
/-! ### is_count, is_name -/
def countL : List Nat → Bool
  | [] => false
  | c :: r => ((c :: r).all fun x => decide (48 ≤ x ∧ x ≤ 57)) && (decide (c ≠ 48) || r.isEmpty)
section
variable {M : Mem} {w : Str}
theorem sok1 {c : Nat} (h : sOk w) (hc : c ∈ tl w) : sOk ⟨#[c]⟩ := by
  unfold sOk PyData.strOk at h ⊢
  rw [← Array.all_toList, List.all_eq_true] at h ⊢
  intro x hx
  have : x = c := by simpa using hx
  subst this
  exact h x hc
theorem sp_is_count (k : Nat) (h : Wd w) : (mkDy G T (k + 1)).call "is_count" [.str w] M = .ok (.val (.bl (countL (tl w)))) M := by
  have lc : ∀ {r : Sl}, l1_is_count (mkDy G T k) (some (.str w) :: none :: r) M = .ok (.own (.lst (((tl w).map fun c => decide (c ∈ tl (Str.ofString "0123456789"))).map D.bl))) M := fun {r} => by
    unfold l1_is_count
    simp! only [sg_all h.le]
  have hb : ∀ z : String, (w == Str.ofString z) = decide (tl w = tl (Str.ofString z)) := fun z => beq_tl
  rw [c_is_count]
  unfold m_is_count
  have e0 : tl (Str.ofString "") = [] := by decide +kernel
  have e1 : tl (Str.ofString "0") = [48] := by decide +kernel
  cases hw : tl w with
  | nil =>
    have : (w == Str.ofString "") = true := by rw [hb, hw, e0]; rfl
    simp! only [h.ok, this, gc_same]
    rfl
  | cons c r =>
    have n0 : (w == Str.ofString "") = false := by rw [hb, hw, e0]; rfl
    have n1 : (w == Str.ofString "0") = decide (c = 48 ∧ r = []) := by
      rw [hb, hw, e1]
      apply decide_eq_decide.mpr
      simp
    have n2 : ((⟨#[c]⟩ : Str) == Str.ofString "0") = decide (c = 48) := by
      rw [beq_tl, e1, tl_one]
      apply decide_eq_decide.mpr
      simp
    have so : sOk ⟨#[c]⟩ := sok1 h.ok (by rw [hw]; exact List.mem_cons_self)
    cases ha : (tl w).all fun x => decide (48 ≤ x ∧ x ≤ 57) with
    | false =>
      have hc : countL (c :: r) = false := by unfold countL; rw [hw] at ha; simp only [ha, Bool.false_and]
      simp! only [h.ok, n0, lc, all_id', digits_at, ha, gc_same, hc]
    | true =>
      have hc : countL (c :: r) = (decide (c ≠ 48) || r.isEmpty) := by unfold countL; rw [hw] at ha; simp only [ha, Bool.true_and]
      by_cases h48 : c = 48
      · have z2 : decide (c = 48) = true := decide_eq_true h48
        have z3 : decide (c ≠ 48) = false := decide_eq_false (by simpa using h48)
        cases r with
        | nil =>
          have z : decide (c = 48 ∧ ([] : List Nat) = []) = true := decide_eq_true ⟨h48, rfl⟩
          rw [z] at n1
          simp! only [h.ok, n0, lc, all_id', digits_at, ha, n1, gc_same, hc, z3]
          rfl
        | cons d r =>
          have z : decide (c = 48 ∧ d :: r = []) = false := decide_eq_false (by simp)
          rw [z] at n1
          simp! only [h.ok, n0, lc, all_id', digits_at, ha, n1, gc_same, hc, so, n2, ix_str0 h.le hw, z2, z3]
          rfl
      · have z : decide (c = 48 ∧ r = []) = false := decide_eq_false fun z => h48 z.1
        have z2 : decide (c = 48) = false := decide_eq_false h48
        have z3 : decide (c ≠ 48) = true := decide_eq_true h48
        simp! only [h.ok, n0, lc, all_id', digits_at, ha, n1, z, z2, gc_same, hc, so, n2, ix_str0 h.le hw, z3, Bool.true_or]
def barS : List Str := ["input", "load", "store", "set", "join", "part", "each", "copy", "up", "down", "fill", "step", "when", "else", "end", "times", "give", "call", "to", "from", "upto", "is", "apart", "by"]
theorem bar_lit (a : Str) (M : Mem) : cmpS .NotIn (.str a) (.ctup [D.str "input", D.str "load", D.str "store", D.str "set", D.str "join", D.str "part", D.str "each", D.str "copy", D.str "up", D.str "down", D.str "fill", D.str "step", D.str "when", D.str "else", D.str "end", D.str "times", D.str "give", D.str "call", D.str "to", D.str "from", D.str "upto", D.str "is", D.str "apart", D.str "by"]) M = .ok (.val (.bl (!(barS.any fun y => y == a)))) M := notin_ctup a barS M
def nameB (w : Str) : Bool := decide (1 ≤ w.length) && (decide (w.length ≤ 12) && (!(barS.any fun y => y == w) && (tl w).all fun c => decide (97 ≤ c ∧ c ≤ 122)))
theorem sp_is_name (k : Nat) (h : Wd w) : (mkDy G T (k + 1)).call "is_name" [.str w] M = .ok (.val (.bl (nameB w))) M := by
  have lc : ∀ {r : Sl}, l1_is_name (mkDy G T k) (some (.str w) :: none :: r) M = .ok (.own (.lst (((tl w).map fun c => decide (c ∈ tl (Str.ofString "abcdefghijklmnopqrstuvwxyz"))).map D.bl))) M := fun {r} => by
    unfold l1_is_name
    simp! only [sg_all h.le]
  rw [c_is_name]
  unfold m_is_name
  have i1 : decide ((1 : Int) ≤ (w.length : Nat)) = decide (1 ≤ w.length) := decide_eq_decide.mpr (by omega)
  have i2 : decide (((w.length : Nat) : Int) ≤ 12) = decide (w.length ≤ 12) := decide_eq_decide.mpr (by omega)
  unfold nameB
  cases h1 : decide (1 ≤ w.length) with
  | false => simp! only [lenO_str h.le, i1, h1, gc_same, Bool.false_and]
  | true =>
    cases h2 : decide (w.length ≤ 12) with
    | false => simp! only [lenO_str h.le, i1, i2, h1, h2, gc_same, Bool.false_and, Bool.true_and]
    | true =>
      cases h3 : (barS.any fun y => y == w) with
      | true => simp! only [lenO_str h.le, i1, i2, h1, h2, bar_lit, h3, gc_same, Bool.false_and, Bool.true_and]
      | false => simp! only [lenO_str h.le, i1, i2, h1, h2, bar_lit, h3, lc, all_id', letters_at, gc_same, Bool.true_and]
/-! ### number_of -/
def optI : Option Int → D
  | none => .non
  | some i => .int i
def within (v lo hi : Int) : Option Int := if lo ≤ v then (if v ≤ hi then some v else none) else none
def numL2 (l : List Nat) (lo hi : Int) : Option Int := match l with
  | 45 :: r => if countL r = true ∧ r ≠ [48] ∧ r.length ≤ 4 then within (-((PySem.NumText.digitsVal r : Nat) : Int)) lo hi else none
  | r => if countL r = true ∧ r.length ≤ 4 then within ((PySem.NumText.digitsVal r : Nat) : Int) lo hi else none
theorem countL_digits : ∀ {l : List Nat}, countL l = true → (∀ c ∈ l, 48 ≤ c ∧ c ≤ 57) ∧ l ≠ []
  | [], h => by cases h
  | c :: r, h => by
    unfold countL at h
    rw [Bool.and_eq_true, List.all_eq_true] at h
    exact ⟨fun x hx => of_decide_eq_true (h.1 x hx), fun z => by cases z⟩
theorem int_of {n : Int} (hl : w.length ≤ 640) (h : PySem.intText? w = some n) : intS [.str w] M = .ok (.val (.int n)) M := by
  show (if w.length ≤ 640 then (match PySem.intText? w with
    | some n => vI n M
    | none => .stuck) else .stuck) = _
  rw [if_pos hl, h]
  rfl
theorem sp_number_of (k : Nat) {lo hi : Int} (h : Wd w) : (mkDy G T (k + 2)).call "number_of" [.str w, .int lo, .int hi] M = .ok (.val (optI (numL2 (tl w) lo hi))) M := by
  have e0 : tl (Str.ofString "-") = [45] := by decide +kernel
  have e1 : tl (Str.ofString "-0") = [45, 48] := by decide +kernel
  rw [c_number_of]
  unfold m_number_of
  have two : ∀ v : Int, (within v lo hi = some v ∧ decide (lo ≤ v) = true ∧ decide (v ≤ hi) = true) ∨ (within v lo hi = none ∧ (decide (lo ≤ v) = false ∨ (decide (lo ≤ v) = true ∧ decide (v ≤ hi) = false))) := fun v => by
    unfold within
    by_cases a : lo ≤ v
    · by_cases b : v ≤ hi
      · exact .inl ⟨by rw [if_pos a, if_pos b], decide_eq_true a, decide_eq_true b⟩
      · exact .inr ⟨by rw [if_pos a, if_neg b], .inr ⟨decide_eq_true a, decide_eq_false b⟩⟩
    · exact .inr ⟨by rw [if_neg a], .inl (decide_eq_false a)⟩
  cases hw : tl w with
  | nil =>
    have hc : tl (cutS w none (some 1)) = [] := by rw [tl_cut, hw]; simp
    have hs : cutS w none (some 1) = w := str_ext (by rw [hc, hw])
    have q : (w == Str.ofString "-") = false := by rw [beq_tl, hw, e0]; rfl
    have c0 : countL [] = false := rfl
    simp! only [sl_str _ _ h.le, hs, h.ok, q, sp_is_count k h, hw, c0, gc_same]
    rfl
  | cons c r =>
    have so : sOk ⟨#[c]⟩ := sok1 h.ok (by rw [hw]; exact List.mem_cons_self)
    have hl : w.length = r.length + 1 := by rw [len_tl, hw]; rfl
    by_cases h45 : c = 45
    · subst h45
      have q : ((⟨#[45]⟩ : Str) == Str.ofString "-") = true := by decide +kernel
      have ht := cut_rest hw
      have hd : Wd (cutS w (some 1) none) := h.of (fun x hx => by rw [ht] at hx; rw [hw]; exact List.mem_cons_of_mem _ hx) (by rw [len_tl, ht, hl]; exact Nat.le_succ _)
      have hdl : (cutS w (some 1) none).length = r.length := by rw [len_tl, ht]
      have hz : (w == Str.ofString "-0") = decide (r = [48]) := by
        rw [beq_tl, hw, e1]
        apply decide_eq_decide.mpr
        simp
      have h4 : decide ((4 : Int) < ((cutS w (some 1) none).length : Nat)) = decide (4 < r.length) := decide_eq_decide.mpr (by rw [hdl]; omega)
      have hn : numL2 (45 :: r) lo hi = if countL r = true ∧ r ≠ [48] ∧ r.length ≤ 4 then within (-((PySem.NumText.digitsVal r : Nat) : Int)) lo hi else none := rfl
      rw [hn]
      cases hc : countL r with
      | false =>
        rw [if_neg (fun z => by cases z.1)]
        simp! only [sl_str _ _ h.le, cut_first hw, so, q, sp_is_count k hd, ht, hc, gc_same]
        rfl
      | true =>
        by_cases z0 : r = [48]
        · rw [if_neg fun z => z.2.1 z0]
          simp! only [sl_str _ _ h.le, cut_first hw, so, q, sp_is_count k hd, ht, hc, h.ok, hz, decide_eq_true z0, gc_same]
          rfl
        · by_cases z4 : r.length ≤ 4
          · rw [if_pos ⟨rfl, z0, z4⟩]
            have z4' : decide (4 < r.length) = false := decide_eq_false (by omega)
            obtain ⟨dg, ne⟩ := countL_digits hc
            have it := PySem.intText_neg (x := w) (cs := r) hw dg ne (by omega)
            rcases two (-((PySem.NumText.digitsVal r : Nat) : Int)) with ⟨t1, t2, t3⟩ | ⟨t1, t2 | ⟨t2, t3⟩⟩
            · simp! only [sl_str _ _ h.le, cut_first hw, so, q, sp_is_count k hd, ht, hc, h.ok, hz, decide_eq_false z0, lenO_str hd.le, h4, z4', int_of (by omega) it, t1, t2, t3, gc_same, optI]
            · simp! only [sl_str _ _ h.le, cut_first hw, so, q, sp_is_count k hd, ht, hc, h.ok, hz, decide_eq_false z0, lenO_str hd.le, h4, z4', int_of (by omega) it, t1, t2, gc_same, optI]
            · simp! only [sl_str _ _ h.le, cut_first hw, so, q, sp_is_count k hd, ht, hc, h.ok, hz, decide_eq_false z0, lenO_str hd.le, h4, z4', int_of (by omega) it, t1, t2, t3, gc_same, optI]
          · rw [if_neg fun z => z4 z.2.2]
            have z4' : decide (4 < r.length) = true := decide_eq_true (by omega)
            simp! only [sl_str _ _ h.le, cut_first hw, so, q, sp_is_count k hd, ht, hc, h.ok, hz, decide_eq_false z0, lenO_str hd.le, h4, z4', gc_same]
            rfl
    · have q : ((⟨#[c]⟩ : Str) == Str.ofString "-") = false := by
        rw [beq_tl, e0, tl_one]
        exact decide_eq_false (by simpa using h45)
      have hz : (w == Str.ofString "-0") = false := by
        rw [beq_tl, hw, e1]
        exact decide_eq_false (by simp [h45])
      have h4 : decide ((4 : Int) < (w.length : Nat)) = decide (3 < r.length) := decide_eq_decide.mpr (by rw [hl]; omega)
      have hn : numL2 (c :: r) lo hi = if countL (c :: r) = true ∧ r.length ≤ 3 then within ((PySem.NumText.digitsVal (c :: r) : Nat) : Int) lo hi else none := by
        unfold numL2
        split
        · rename_i e
          cases e
          exact absurd rfl h45
        · rw [List.length_cons]
          by_cases hq : r.length ≤ 3
          · simp only [hq, show r.length + 1 ≤ 4 from by omega]
          · simp only [hq, show ¬ r.length + 1 ≤ 4 from by omega]
      rw [hn]
      cases hc : countL (c :: r) with
      | false =>
        rw [if_neg (fun z => by cases z.1)]
        simp! only [sl_str _ _ h.le, cut_first hw, so, q, sp_is_count k h, hw, hc, gc_same]
        rfl
      | true =>
        by_cases z4 : r.length ≤ 3
        · rw [if_pos ⟨rfl, z4⟩]
          have z4' : decide (3 < r.length) = false := decide_eq_false (by omega)
          obtain ⟨dg, ne⟩ := countL_digits hc
          have it := PySem.intText_digits (x := w) (by intro x hx; exact dg x (by rw [← hw]; exact hx)) (by rw [show w.cps.toList = c :: r from hw]; exact ne) (by rw [hl]; omega)
          rw [show w.cps.toList = c :: r from hw] at it
          have l640 : w.length ≤ 640 := by rw [hl]; omega
          rcases two ((PySem.NumText.digitsVal (c :: r) : Nat) : Int) with ⟨t1, t2, t3⟩ | ⟨t1, t2 | ⟨t2, t3⟩⟩
          · simp! only [sl_str _ _ h.le, cut_first hw, so, q, sp_is_count k h, hw, hc, h.ok, hz, lenO_str h.le, h4, z4', int_of l640 it, t1, t2, t3, gc_same, optI]
          · simp! only [sl_str _ _ h.le, cut_first hw, so, q, sp_is_count k h, hw, hc, h.ok, hz, lenO_str h.le, h4, z4', int_of l640 it, t1, t2, gc_same, optI]
          · simp! only [sl_str _ _ h.le, cut_first hw, so, q, sp_is_count k h, hw, hc, h.ok, hz, lenO_str h.le, h4, z4', int_of l640 it, t1, t2, t3, gc_same, optI]
        · rw [if_neg fun z => z4 z.2]
          have z4' : decide (3 < r.length) = true := decide_eq_true (by omega)
          simp! only [sl_str _ _ h.le, cut_first hw, so, q, sp_is_count k h, hw, hc, h.ok, hz, lenO_str h.le, h4, z4', gc_same]
          rfl
end

end Pc

set_option Elab.async false
set_option linter.all false
set_option maxRecDepth 100000
set_option maxHeartbeats 4000000
set_option autoImplicit false
namespace Pc
open PySem PySem.Spec PyProof.Rows L2 TL
local macro_rules | `(tactic| simp! only [$ls,*]) => `(tactic| simp -implicitDefEqProofs only [bind_ok, bnd_ok, bnd_exc, map_ok, toS_ok, tos_ok, tos_exc, seq_nx, seq_rt, sq_nx, sq_rt, sq_bk, sq_ct, sq_exc, runS_nx, runS_rt, runS_exc, noX_ok, d_val, d_own, al_val, al_f, alK_val, alK_f, alK_t, e_seq, e_next, e_bk, e_ct, e_ret, e_retN, e_ifS, e_set, e_drop, e_A, e_D, e_val, e_var0, e_varS, e_nil, e_cons, e_cmp, e_bin, e_blt, e_call, e_bl, blK_b, e_tru, trK_b, e_notT, e_andT, e_orT, e_and, andK_b, e_or, orK_b, e_not, notK_b, e_neg, negK_i, e_if, e_chain, chK_b, e_tup, e_lst, e_idx, e_attrX, e_slice, e_noP, e_partE, ptK2_i, e_star, starK_lst, starK_tup, e_meth, ma_join, ma_split, ma_append, ma_pop, ma_index, ma_extend, meK_str, meK_lst, sl_tup, sl_lst, e_lc, e_for, e_ianyO, e_ienu, e_irng1, e_irng2, e_izip, e_par, e_asg, e_sub, e_fld, e_lenO, e_dict, e_pn, e_pc, e_dnew, e_isi, e_make, e_raise, rsK_none, gcE_same, gcK_same, gcK_own0, o_dk, stK_s, eq_int, ne_int, eq_str, ne_str, sOk_lit, sOk_numS, lt_int, le_int, gt_int, ge_int, in_sign, is_non, isNot_non, is_tup, isNot_tup, is_int, isNot_int, lenO_tup, lenO_ctup, lenO_lst, lenO_scr, add_int, sub_int, int_int, abs_int, tuple_lst, tuple_tup, listO_lst, listO_tup, all_bls, o_lst, max_two, min_two, anyO_str, anyO_tup, anyO_ctup, anyO_lst, enu_tup, enu_lst, startE, w_ok, w_exc, ↓w_bnd, ↓w_bind, ↓ws_tos, ↓ws_sq, ↓ws_toS, ↓ws_seq, w_map, w_noX, w_run, w_al, w_ite, ws_nx, ws_rt, ws_bk, ws_ct, ws_exc, ws_ite, List.map_cons, List.map_nil, List.length_cons, List.length_nil, List.replicate, List.nil_append, List.cons_append, List.set_cons_zero, List.set_cons_succ, Nat.reduceAdd, Nat.reduceSub, if_true, if_false, Bool.false_eq_true, ite_true, ite_false, Bool.not_true, Bool.not_false, decide_true, decide_false, true_or, or_true, false_or, or_false, Nat.reduceEqDiff, Nat.reduceLT, Int.reduceLT, Int.reduceLE, or_self, sz0, sz1, sz2, sz3, sz4, sz5, sz6, sz7, sz8, sz9, ix_tup0, ix_tup1, ix_tup2, ix_tup3, ix_tup4, ix_tup5, ix_lst0, ix_lst1, ix_lst2, ix_lst3, ix_lst4, ix_lst5, ix_ctup0, ix_ctup1, ix_ctup2, ix_ctup3, ix_ctup4, ix_ctup5, $ls,*])
/-! K3: spots and places of pointers, at any words -/
section
variable {M : Mem} {w : Str}
theorem spl_one (s : Nat) : ∀ (l acc : List Nat), ∃ r, spl [s] 0 acc l = (acc ++ l.takeWhile fun c => decide (c ≠ s)) :: r
  | [], acc => ⟨[], by simp [spl_nil]⟩
  | c :: l, acc => by
    by_cases h : c = s
    · subst h
      refine ⟨spl [c] ([c].length - 1) [] l, ?_⟩
      rw [spl_hit (by simp [pre])]
      simp
    · obtain ⟨r, hr⟩ := spl_one s l (acc ++ [c])
      refine ⟨r, ?_⟩
      rw [spl_miss (by simp [pre, h, Ne.symm h]), hr, List.takeWhile_cons, if_pos (decide_eq_true h)]
      simp
theorem split_first {s : Nat} {y : Str} (hy : tl y = [s]) (hs : s < 256) (w : Str) : ∃ a r, Txt.split w y = a :: r ∧ tl a = (tl w).takeWhile fun c => decide (c ≠ s) := by
  obtain ⟨r, hr⟩ := spl_one s (tl w) []
  have e := split_spl w y (by rw [hy]; simp) (kind_ok (by
    rw [Array.all_eq_true]
    intro i hi
    have : y.cps[i] ∈ tl y := Array.getElem_mem_toList hi
    rw [hy] at this
    have : y.cps[i] = s := by simpa using this
    simp [this, hs]))
  rw [hy, hr] at e
  cases h : Txt.split w y with
  | nil => rw [h] at e; cases e
  | cons a t =>
    rw [h] at e
    rw [List.map_cons] at e
    injection e with e1 e2
    exact ⟨a, t, rfl, by rw [e1]; simp⟩
/-- the name of a spot -/
def spN (l : List Nat) : List Nat := l.takeWhile fun c => decide (c ≠ 43 ∧ c ≠ 45)
theorem take_take (l : List Nat) : (l.takeWhile fun c => decide (c ≠ 43)).takeWhile (fun c => decide (c ≠ 45)) = spN l := by
  unfold spN
  induction l with
  | nil => rfl
  | cons c l ih =>
    by_cases h : c = 43
    · subst h; simp
    · by_cases h2 : c = 45
      · subst h2; simp
      · simp only [List.takeWhile_cons, decide_eq_true h, if_true, decide_eq_true h2, ih, decide_eq_true (And.intro h h2)]
/-- where a text stands first among others -/
def atP (ps : List Str) (x : List Nat) : Option Nat := ps.findIdx? fun p => decide (tl p = x)
def spotL (ps : List Str) (l : List Nat) : Option (Nat × Int) := match atP ps (spN l) with
  | none => none
  | some i => match l.drop (spN l).length with
    | [] => some (i, 0)
    | c :: r => match numL2 r 1 30 with
      | none => none
      | some n => some (i, if c = 43 then n else -n)
def optS : Option (Nat × Int) → D
  | none => .non
  | some (i, n) => .tup [.int (i : Nat), .int n]
structure Pps (ps : List Str) : Prop where
  few : ps.length ≤ 3
  ok : ∀ p ∈ ps, sOk p
theorem any_atP (ps : List Str) (x : Str) : (ps.any fun y => y == x) = (atP ps (tl x)).isSome := by
  unfold atP
  rw [List.findIdx?_isSome]
  congr 1
  funext y
  exact beq_tl
def isP (x : Str) (d : D) : Bool := match d with
  | .tup [_, .str q] => q == x
  | _ => false
def fstP (d : D) : D := match d with
  | .tup [j, _] => j
  | _ => .non
theorem idx_first (x : Str) : ∀ (ps : List Str) (n i : Nat), atP ps (tl x) = some i → ∃ r, ((((ps.map D.str).zipIdx n).map fun p => D.tup [.int (p.2 : Nat), p.1]).filter (isP x)).map fstP = .int ((n + i : Nat) : Int) :: r
  | [], n, i, h => by cases h
  | p :: ps, n, i, h => by
    unfold atP at h
    rw [List.findIdx?_cons] at h
    rw [List.map_cons, List.zipIdx_cons, List.map_cons]
    by_cases e : tl p = tl x
    · rw [if_pos (decide_eq_true e)] at h
      cases h
      have : isP x (D.tup [.int (n : Nat), .str p]) = true := by
        show (p == x) = true
        rw [beq_tl]; exact decide_eq_true e
      rw [List.filter_cons_of_pos this]
      exact ⟨_, rfl⟩
    · rw [if_neg (by simpa using e)] at h
      cases q : ps.findIdx? (fun p => decide (tl p = tl x)) with
      | none => rw [q] at h; cases h
      | some j =>
        rw [q] at h
        cases h
        have : ¬ isP x (D.tup [.int (n : Nat), .str p]) = true := by
          show ¬ (p == x) = true
          rw [beq_tl]; simpa using e
        rw [List.filter_cons_of_neg this]
        obtain ⟨r, hr⟩ := idx_first x ps (n + 1) j q
        exact ⟨r, by rw [hr]; congr 3; show n + 1 + j = n + (j + 1); omega⟩
theorem l_spot {ps : List Str} {x : Str} {i : Nat} (P : Pps ps) (hx : sOk x) (hi : atP ps (tl x) = some i) (k : Nat) {a1 a3 a4 a5 a6 a7 : Option D} :
    ∃ r, l1_spot_of (mkDy G T k) [some (.tup (ps.map D.str)), a1, some (.str x), a3, a4, a5, a6, a7] M = .ok (.own (.lst (.int i :: r))) M := by
  obtain ⟨r, hr⟩ := idx_first x ps 0 i hi
  refine ⟨r, ?_⟩
  unfold l1_spot_of
  simp! only []
  rw [← enus_len (ps.map D.str), lc_pure (enus (ps.map D.str)) (isP x) fstP (g_etup _) (by rw [enus_len, List.length_map, sizeLine_eq]; have := P.few; omega)]
  · have e := hr
    rw [Nat.zero_add] at e
    show R.bnd (.ok (((enus (ps.map D.str)).filter (isP x)).map fstP) M) _ = _
    unfold enus
    rw [e]
    rfl
  · intro d hd
    unfold enus at hd
    obtain ⟨⟨q, j⟩, hq, rfl⟩ := List.mem_map.mp hd
    have hq2 : q ∈ ps.map D.str := by
      obtain ⟨_, h, e⟩ := List.mem_zipIdx hq
      rw [e]
      exact List.getElem_mem _
    obtain ⟨y, hy, rfl⟩ := List.mem_map.mp hq2
    refine ⟨[(5, .int (j : Nat)), (6, .str y)], rfl, rfl, ?_, fun _ => rfl⟩
    show (mBl (mCmp .Eq (mVar 6) (mVar 2))) [some (.tup (ps.map D.str)), a1, some (.str x), a3, a4, some (.int (j : Nat)), some (.str y), a7] M = _
    simp! only [P.ok y hy, hx]
    rfl
theorem takeW_sub {p : Nat → Bool} : ∀ {l : List Nat} {c : Nat}, c ∈ l.takeWhile p → c ∈ l := fun {l c} h => (List.takeWhile_sublist p).subset h
theorem sp_spot_of (k : Nat) {ps : List Str} (P : Pps ps) (h : Wd w) : (mkDy G T (k + 3)).call "spot_of" [.tup (ps.map D.str), .str w] M = .ok (.val (optS (spotL ps (tl w)))) M := by
  have tp : tl (Str.ofString "+") = [43] := by decide +kernel
  have td : tl (Str.ofString "-") = [45] := by decide +kernel
  obtain ⟨a, r, s1, a1⟩ := split_first tp (by decide) w
  obtain ⟨x, r2, s2, x1⟩ := split_first td (by decide) a
  rw [a1, take_take] at x1
  have ha : Wd a := h.of (fun c hc => by rw [a1] at hc; exact takeW_sub hc) (by rw [len_tl, len_tl, a1]; exact (List.takeWhile_sublist _).length_le)
  have hx : Wd x := h.of (fun c hc => by rw [x1] at hc; exact takeW_sub hc) (by rw [len_tl, len_tl, x1]; exact (List.takeWhile_sublist _).length_le)
  have xl : x.length = (spN (tl w)).length := by rw [len_tl, x1]
  have xle : x.length ≤ w.length := by rw [len_tl, len_tl, x1]; exact (List.takeWhile_sublist _).length_le
  have q1 : ((Str.ofString "+").length == 0) = false := by decide +kernel
  have q2 : ((Str.ofString "-").length == 0) = false := by decide +kernel
  have rs : tl (cutS w (some (x.length : Int)) none) = (tl w).drop (spN (tl w)).length := by
    rw [tl_cut, HT.sIx_nat, HT.sIx_none, Nat.min_eq_left xle, xl]
    rw [List.take_of_length_le]
    rw [List.length_drop, len_tl]
    exact Nat.le_refl _
  have hr : Wd (cutS w (some (x.length : Int)) none) := h.of (fun c hc => by rw [rs] at hc; exact List.mem_of_mem_drop hc) (by rw [len_tl, rs, List.length_drop, len_tl]; omega)
  rw [c_spot_of]
  unfold m_spot_of
  unfold spotL
  cases hi : atP ps (spN (tl w)) with
  | none =>
    have hin : (ps.any fun y => y == x) = false := by rw [any_atP, x1, hi]; rfl
    simp! only [split_ok q1 h.sz, split_ok q2 ha.sz, s1, s2, lenO_str hx.le, sl_str _ _ h.le, notin_tup, hin, gc_same]
    rfl
  | some i =>
    have hin : (ps.any fun y => y == x) = true := by rw [any_atP, x1, hi]; rfl
    obtain ⟨r3, lc⟩ := l_spot (M := M) P hx.ok (by rw [x1]; exact hi) (k + 2) (a1 := some (.str w)) (a3 := some (.str (cutS w (some (x.length : Int)) none))) (a4 := none) (a5 := none) (a6 := none) (a7 := none)
    have tl0 : tl (Str.ofString "") = [] := by decide +kernel
    dsimp only
    cases hd : (tl w).drop (spN (tl w)).length with
    | nil =>
      rw [hd] at rs
      have e : (cutS w (some (x.length : Int)) none == Str.ofString "") = true := by rw [beq_tl, rs, tl0]; rfl
      simp! only [split_ok q1 h.sz, split_ok q2 ha.sz, s1, s2, lenO_str hx.le, sl_str _ _ h.le, notin_tup, hin, lc, hr.ok, e, gc_same]
      rfl
    | cons c r4 =>
      rw [hd] at rs
      have e : (cutS w (some (x.length : Int)) none == Str.ofString "") = false := by rw [beq_tl, rs, tl0]; rfl
      have cr : tl (cutS (cutS w (some (x.length : Int)) none) (some 1) none) = r4 := cut_rest rs
      have hq : Wd (cutS (cutS w (some (x.length : Int)) none) (some 1) none) := hr.of (fun y hy => by rw [cr] at hy; rw [rs]; exact List.mem_cons_of_mem _ hy) (by
        have e1 := len_tl (cutS (cutS w (some (x.length : Int)) none) (some 1) none)
        rw [cr] at e1
        have e2 := len_tl (cutS w (some (x.length : Int)) none)
        rw [rs] at e2
        rw [e1, e2]
        exact Nat.le_succ _)
      have so : sOk ⟨#[c]⟩ := sok1 hr.ok (by rw [rs]; exact List.mem_cons_self)
      have nb := sp_number_of (M := M) k (lo := 1) (hi := 30) hq
      rw [cr] at nb
      dsimp only
      cases hn : numL2 r4 1 30 with
      | none =>
        rw [hn] at nb
        dsimp only
        simp! only [split_ok q1 h.sz, split_ok q2 ha.sz, s1, s2, lenO_str hx.le, sl_str _ _ h.le, sl_str _ _ hr.le, notin_tup, hin, lc, hr.ok, e, nb, optI, gc_same]
        rfl
      | some n =>
        rw [hn] at nb
        dsimp only
        have pl : ((⟨#[c]⟩ : Str) == Str.ofString "+") = decide (c = 43) := by
          rw [beq_tl, tp, tl_one]
          apply decide_eq_decide.mpr
          simp
        by_cases h43 : c = 43
        · rw [if_pos h43]
          simp! only [split_ok q1 h.sz, split_ok q2 ha.sz, s1, s2, lenO_str hx.le, sl_str _ _ h.le, sl_str _ _ hr.le, notin_tup, hin, lc, hr.ok, e, nb, optI, ix_str0 hr.le rs, so, pl, decide_eq_true h43, gc_same]
          rfl
        · rw [if_neg h43]
          simp! only [split_ok q1 h.sz, split_ok q2 ha.sz, s1, s2, lenO_str hx.le, sl_str _ _ h.le, sl_str _ _ hr.le, notin_tup, hin, lc, hr.ok, e, nb, optI, ix_str0 hr.le rs, so, pl, decide_eq_false h43, gc_same]
          rfl
/-- the index of a pointer -/
def placeL (ps : List Str) (w : Str) : Option Nat := match spotL ps (tl w) with
  | none => none
  | some p => if nameB w then some p.1 else none
def optN : Option Nat → D
  | none => .non
  | some i => .int (i : Nat)
theorem sp_place_of (k : Nat) {ps : List Str} (P : Pps ps) (h : Wd w) : (mkDy G T (k + 4)).call "place_of" [.tup (ps.map D.str), .str w] M = .ok (.val (optN (placeL ps w))) M := by
  have hs := sp_spot_of (M := M) k P h
  rw [c_place_of]
  unfold m_place_of placeL
  cases hi : spotL ps (tl w) with
  | none =>
    rw [hi] at hs
    simp! only [hs, optS, isNot_non, gc_same]
    rfl
  | some p =>
    obtain ⟨i, n⟩ := p
    rw [hi] at hs
    cases hn : nameB w with
    | false =>
      simp! only [hs, optS, sp_is_name (k + 2) h, hn, gc_same]
      rfl
    | true =>
      simp! only [hs, optS, sp_is_name (k + 2) h, hn, gc_same]
      rfl
end

end Pc

set_option Elab.async false
set_option linter.all false
set_option maxRecDepth 100000
set_option maxHeartbeats 4000000
set_option autoImplicit false
namespace Pc
open PySem PySem.Spec PyProof.Rows L2 TL
local macro_rules | `(tactic| simp! only [$ls,*]) => `(tactic| simp -implicitDefEqProofs only [bind_ok, bnd_ok, bnd_exc, map_ok, toS_ok, tos_ok, tos_exc, seq_nx, seq_rt, sq_nx, sq_rt, sq_bk, sq_ct, sq_exc, runS_nx, runS_rt, runS_exc, noX_ok, d_val, d_own, al_val, al_f, alK_val, alK_f, alK_t, e_seq, e_next, e_bk, e_ct, e_ret, e_retN, e_ifS, e_set, e_drop, e_A, e_D, e_val, e_var0, e_varS, e_nil, e_cons, e_cmp, e_bin, e_blt, e_call, e_bl, blK_b, e_tru, trK_b, e_notT, e_andT, e_orT, e_and, andK_b, e_or, orK_b, e_not, notK_b, e_neg, negK_i, e_if, e_chain, chK_b, e_tup, e_lst, e_idx, e_attrX, e_slice, e_noP, e_partE, ptK2_i, e_star, starK_lst, starK_tup, e_meth, ma_join, ma_split, ma_append, ma_pop, ma_index, ma_extend, meK_str, meK_lst, sl_tup, sl_lst, e_lc, e_for, e_ianyO, e_ienu, e_irng1, e_irng2, e_izip, e_par, e_asg, e_sub, e_fld, e_lenO, e_dict, e_pn, e_pc, e_dnew, e_isi, e_make, e_raise, rsK_none, gcE_same, gcK_same, gcK_own0, o_dk, stK_s, eq_int, ne_int, eq_str, ne_str, sOk_lit, sOk_numS, lt_int, le_int, gt_int, ge_int, in_sign, is_non, isNot_non, is_tup, isNot_tup, is_int, isNot_int, lenO_tup, lenO_ctup, lenO_lst, lenO_scr, add_int, sub_int, int_int, abs_int, tuple_lst, tuple_tup, listO_lst, listO_tup, all_bls, o_lst, max_two, min_two, anyO_str, anyO_tup, anyO_ctup, anyO_lst, enu_tup, enu_lst, startE, w_ok, w_exc, ↓w_bnd, ↓w_bind, ↓ws_tos, ↓ws_sq, ↓ws_toS, ↓ws_seq, w_map, w_noX, w_run, w_al, w_ite, ws_nx, ws_rt, ws_bk, ws_ct, ws_exc, ws_ite, List.map_cons, List.map_nil, List.length_cons, List.length_nil, List.replicate, List.nil_append, List.cons_append, List.set_cons_zero, List.set_cons_succ, Nat.reduceAdd, Nat.reduceSub, if_true, if_false, Bool.false_eq_true, ite_true, ite_false, Bool.not_true, Bool.not_false, decide_true, decide_false, true_or, or_true, false_or, or_false, Nat.reduceEqDiff, Nat.reduceLT, Int.reduceLT, Int.reduceLE, or_self, sz0, sz1, sz2, sz3, sz4, sz5, sz6, sz7, sz8, sz9, ix_tup0, ix_tup1, ix_tup2, ix_tup3, ix_tup4, ix_tup5, ix_lst0, ix_lst1, ix_lst2, ix_lst3, ix_lst4, ix_lst5, ix_ctup0, ix_ctup1, ix_ctup2, ix_ctup3, ix_ctup4, ix_ctup5, $ls,*])
/-! K4: facts, at any words -/
inductive LF where
  | by_ (p : Nat) (m r : Int)
  | gap (p q : Nat) (m r : Int)
  | apart (p : Nat) (c a : Int) (q : Nat) (e b : Int)
  | lim (kd : Str) (p q : Nat) (n : Int)
  deriving DecidableEq
def LF.told : LF → D
  | .by_ p m r => .tup [.str "by", .int (p : Nat), .int m, .int r]
  | .gap p q m r => .tup [.str "between", .int (p : Nat), .int (q : Nat), .int m, .int r]
  | .apart p c a q e b => .tup [.str "apart", .tup [.int (p : Nat), .int c], .int a, .tup [.int (q : Nat), .int e], .int b]
  | .lim kd p q n => .tup [.str kd, .int (p : Nat), .int (q : Nat), .int n]
def optF : Option LF → D
  | none => .non
  | some f => f.told
def mdL (w : Str) : Option Int := if w = "2" then some 2 else if w = "4" then some 4 else if w = "8" then some 8 else none
def remL (w r : Str) : Option (Int × Int) := match mdL w with
  | none => none
  | some m => (numL2 (tl r) 0 (m - 1)).map fun x => (m, x)
def isLim (w : Str) : Bool := (["from", "upto", "is"] : List Str).any fun y => y == w
def limL (ps : List Str) (a b kd n : Str) : Option LF := match placeL ps a, placeL ps b with
  | some p, some q => if p = q then none else if isLim kd then (numL2 (tl n) (-40) 40).map (LF.lim kd p q) else none
  | _, _ => none
def gapL (ps : List Str) (a b kd m r : Str) : Option LF := match placeL ps a, placeL ps b with
  | some p, some q => if p = q then none else if kd = "by" then (remL m r).map fun x => LF.gap p q x.1 x.2 else none
  | _, _ => none
def apartL (ps : List Str) (s1 n1 s2 n2 : Str) : Option LF := match spotL ps (tl s1), spotL ps (tl s2) with
  | some (p, c), some (q, e) => if p = q then none else match numL2 (tl n1) 1 16, numL2 (tl n2) 1 16 with
    | some a, some b => some (.apart p c a q e b)
    | _, _ => none
  | _, _ => none
def byL (ps : List Str) (a m r : Str) : Option LF := match placeL ps a with
  | none => none
  | some p => (remL m r).map fun x => LF.by_ p x.1 x.2
def factL (ps : List Str) : List Str → Option LF
  | [a, b, c, d] => if b = "by" then byL ps a c d else none
  | [a, b, c, d, e] => if a = "apart" then apartL ps b c d e else if b = "to" then limL ps a c d e else none
  | [a, b, c, d, e, f] => if b = "to" then gapL ps a c d e f else none
  | _ => none
section
variable {M : Mem}
theorem shOpt (o : Option Nat) (n : Nat) : shD n (optN o) = true := by cases o <;> (unfold optN; unfold shD; rfl)
theorem in_non (os : List (Option Nat)) : cmpS .In .non (.lst (os.map optN)) M = .ok (.val (.bl (os.any Option.isNone))) M := by
  obtain ⟨p, l, h1, h2, h3⟩ := inO_list (M := M) (d := .non) (xs := os.map optN) (s := .lst (os.map optN)) rfl (fun _ => .inr trivial) (by unfold shD; rfl) (shL_of (fun y => shOpt y 63) os) (fun _ _ => by simp)
  show rB (inO .non (.lst (os.map optN)) M) M = _
  rw [h3]
  cases h1
  have : ∀ (os : List (Option Nat)) (l : List PyData), pyL (os.map optN) = some l → (l.any fun z => PyData.eqv z .none) = os.any Option.isNone := by
    intro os
    induction os with
    | nil => intro l h; cases h; rfl
    | cons o os ih =>
      intro l h
      rw [List.map_cons, pyL] at h
      cases q : pyL (os.map optN) with
      | none => rw [q] at h; cases o <;> cases h
      | some l' =>
        rw [q] at h
        cases o with
        | none => cases h; rw [List.any_cons, List.any_cons, ih l' q]; simp [PyData.eqv]
        | some i => cases h; rw [List.any_cons, List.any_cons, ih l' q]; simp [PyData.eqv]
  rw [this os l h2]
  rfl
theorem in_non1 (a : Option Nat) : cmpS .In .non (.lst [optN a]) M = .ok (.val (.bl a.isNone)) M := by
  have := in_non (M := M) [a]
  simpa using this
theorem in_non2 (a b : Option Nat) : cmpS .In .non (.lst [optN a, optN b]) M = .ok (.val (.bl (a.isNone || b.isNone))) M := by
  have := in_non (M := M) [a, b]
  simpa using this
theorem shOptI (o : Option Int) (n : Nat) : shD n (optI o) = true := by cases o <;> (unfold optI; unfold shD; rfl)
theorem in_nonI (a b : Option Int) : cmpS .In .non (.lst [optI a, optI b]) M = .ok (.val (.bl (a.isNone || b.isNone))) M := by
  obtain ⟨p, l, h1, h2, h3⟩ := inO_list (M := M) (d := .non) (xs := [optI a, optI b]) (s := .lst [optI a, optI b]) rfl (fun _ => .inr trivial) (by unfold shD; rfl) (by rw [shL, shL, shL, shOptI, shOptI]; rfl) (fun _ _ => by simp)
  show rB (inO .non (.lst [optI a, optI b]) M) M = _
  rw [h3]
  cases h1
  have : (l.any fun z => PyData.eqv z .none) = (a.isNone || b.isNone) := by
    cases a <;> cases b <;> (cases h2; simp [PyData.eqv])
  rw [this]
  rfl
theorem mod_lit (a : Str) : cmpS .NotIn (.str a) (.ctup [.str "2", .str "4", .str "8"]) M = .ok (.val (.bl (!((["2", "4", "8"] : List Str).any fun y => y == a)))) M := notin_ctup a ["2", "4", "8"] M
theorem lim_lit (a : Str) : cmpS .NotIn (.str a) (.ctup [.str "from", .str "upto", .str "is"]) M = .ok (.val (.bl (!isLim a))) M := notin_ctup a ["from", "upto", "is"] M
theorem lim_lit2 (a : Str) : cmpS .In (.str a) (.ctup [.str "from", .str "upto", .str "is"]) M = .ok (.val (.bl (isLim a))) M := in_ctup a ["from", "upto", "is"] M
theorem md_int (w : Str) {m : Int} (h : mdL w = some m) : intS [.str w] M = .ok (.val (.int m)) M ∧ ((["2", "4", "8"] : List Str).any fun y => y == w) = true ∧ 2 ≤ m ∧ m ≤ 8 := by
  unfold mdL at h
  split at h
  · rename_i e; cases h; subst e; exact ⟨by kernel_rfl, by decide +kernel, by decide, by decide⟩
  · split at h
    · rename_i e; cases h; subst e; exact ⟨by kernel_rfl, by decide +kernel, by decide, by decide⟩
    · split at h
      · rename_i e; cases h; subst e; exact ⟨by kernel_rfl, by decide +kernel, by decide, by decide⟩
      · cases h
theorem md_none {w : Str} (h : mdL w = none) : ((["2", "4", "8"] : List Str).any fun y => y == w) = false := by
  unfold mdL at h
  split at h
  · cases h
  · split at h
    · cases h
    · split at h
      · cases h
      · rename_i h1 h2 h3
        simp only [List.any_cons, List.any_nil, Bool.or_false, Bool.or_eq_false_iff]
        exact ⟨beq_false_of_ne (Ne.symm h1), beq_false_of_ne (Ne.symm h2), beq_false_of_ne (Ne.symm h3)⟩
theorem sp_rem1 (k : Nat) (kd : Str) (a : Option Nat) {w r : Str} (hr : Wd r) : (mkDy G T (k + 3)).call "remainder_fact" [.str kd, .lst [optN a], .lst [.str w, .str r]] M =
    .ok (.val (match a, remL w r with | some p, some x => .tup [.str kd, .int (p : Nat), .int x.1, .int x.2] | _, _ => .non)) M := by
  rw [c_remainder_fact]
  unfold m_remainder_fact remL
  cases hm : mdL w with
  | none =>
    simp! only [mod_lit, md_none hm, gc_same]
  | some m =>
    obtain ⟨h1, h2, h3, h4⟩ := md_int (M := M) w hm
    cases a with
    | none => simp! only [mod_lit, h2, in_non1, Option.isNone_none, gc_same]
    | some p =>
      have nb := sp_number_of (M := M) k (lo := 0) (hi := m - 1) hr
      cases hn : numL2 (tl r) 0 (m - 1) with
      | none =>
        rw [hn] at nb
        simp! only [mod_lit, h2, in_non1, Option.isNone_some, h1, nb, optI, gc_same, hn, Option.map_none]
      | some x =>
        rw [hn] at nb
        have e1 : cmpS .In .non (.lst [.int (p : Nat)]) M = .ok (.val (.bl false)) M := in_non1 (some p)
        simp! only [mod_lit, h2, optN, e1, h1, nb, optI, gc_same, hn, Option.map_some]
theorem sp_rem2 (k : Nat) (kd : Str) (p q : Nat) {w r : Str} (hr : Wd r) : (mkDy G T (k + 3)).call "remainder_fact" [.str kd, .lst [.int (p : Nat), .int (q : Nat)], .lst [.str w, .str r]] M =
    .ok (.val (match remL w r with | some x => .tup [.str kd, .int (p : Nat), .int (q : Nat), .int x.1, .int x.2] | _ => .non)) M := by
  have e2 : cmpS .In .non (.lst [.int (p : Nat), .int (q : Nat)]) M = .ok (.val (.bl false)) M := in_non2 (some p) (some q)
  rw [c_remainder_fact]
  unfold m_remainder_fact remL
  cases hm : mdL w with
  | none => simp! only [mod_lit, md_none hm, gc_same]
  | some m =>
    obtain ⟨h1, h2, h3, h4⟩ := md_int (M := M) w hm
    have nb := sp_number_of (M := M) k (lo := 0) (hi := m - 1) hr
    cases hn : numL2 (tl r) 0 (m - 1) with
    | none =>
      rw [hn] at nb
      simp! only [mod_lit, h2, e2, h1, nb, optI, gc_same, hn, Option.map_none]
    | some x =>
      rw [hn] at nb
      simp! only [mod_lit, h2, e2, h1, nb, optI, gc_same, hn, Option.map_some]
theorem cut46 {a b c d e f : D} : cutL [a, b, c, d, e, f] (some 4) none = [e, f] := rfl
theorem cut24 {a b c d : D} : cutL [a, b, c, d] (some 2) none = [c, d] := rfl
theorem nat_beq (p q : Nat) : ((p : Int) == (q : Int)) = decide (p = q) := by
  by_cases h : p = q
  · subst h; simp
  · rw [decide_eq_false h]; simpa using fun z : (p : Int) = q => h (by omega)
theorem sok_md (x : String) : sOk (Str.ofString x) := sOk_lit x
theorem str_beq {w : Str} {x : String} : (w == Str.ofString x) = decide (w = Str.ofString x) := by
  by_cases h : w = Str.ofString x
  · rw [h]; simp
  · rw [decide_eq_false h]; exact beq_false_of_ne h
section
variable {ps : List Str} {a b c d e f : Str}
theorem sp_lim (k : Nat) (P : Pps ps) (ha : Wd a) (hc : Wd c) (hd : Wd d) (he : Wd e) : (mkDy G T (k + 5)).call "pair_fact" [.tup (ps.map D.str), .lst [.str a, .str b, .str c, .str d, .str e]] M = .ok (.val (optF (limL ps a c d e))) M := by
  have e6 : (((5 : Nat) : Int) == 6) = false := by decide
  have p1 := sp_place_of (M := M) k P ha
  have p2 := sp_place_of (M := M) k P hc
  have nb := sp_number_of (M := M) (k + 2) (lo := -40) (hi := 40) he
  rw [c_pair_fact]
  unfold m_pair_fact limL
  cases h1 : placeL ps a with
  | none =>
    rw [h1] at p1
    simp! only [p1, p2, in_non2, Option.isNone_none, Bool.true_or, gc_same]
    rfl
  | some p =>
    rw [h1] at p1
    cases h2 : placeL ps c with
    | none =>
      rw [h2] at p2
      simp! only [p1, p2, in_non2, Option.isNone_none, Option.isNone_some, Bool.false_or, gc_same]
      rfl
    | some q =>
      rw [h2] at p2
      dsimp only
      have hn2 : cmpS .In .non (.lst [.int (p : Nat), .int (q : Nat)]) M = .ok (.val (.bl false)) M := in_non2 (some p) (some q)
      by_cases hpq : p = q
      · rw [if_pos hpq]
        simp! only [p1, p2, optN, hn2, nat_beq, decide_eq_true hpq, gc_same]
        rfl
      · rw [if_neg hpq]
        cases hl : isLim d with
        | false =>
          simp! only [p1, p2, optN, hn2, nat_beq, decide_eq_false hpq, e6, nb, lim_lit, hl, gc_same]
          rfl
        | true =>
          cases hn : numL2 (tl e) (-40) 40 with
          | none =>
            rw [hn] at nb
            simp! only [p1, p2, optN, hn2, nat_beq, decide_eq_false hpq, e6, nb, lim_lit, hl, optI, gc_same]
            rfl
          | some n =>
            rw [hn] at nb
            simp! only [p1, p2, optN, hn2, nat_beq, decide_eq_false hpq, e6, nb, lim_lit, hl, optI, gc_same]
            rfl
theorem sp_gap (k : Nat) (P : Pps ps) (ha : Wd a) (hc : Wd c) (hd : Wd d) (hf : Wd f) : (mkDy G T (k + 5)).call "pair_fact" [.tup (ps.map D.str), .lst [.str a, .str b, .str c, .str d, .str e, .str f]] M = .ok (.val (optF (gapL ps a c d e f))) M := by
  have e6 : (((6 : Nat) : Int) == 6) = true := by decide
  have p1 := sp_place_of (M := M) k P ha
  have p2 := sp_place_of (M := M) k P hc
  rw [c_pair_fact]
  unfold m_pair_fact gapL
  cases h1 : placeL ps a with
  | none =>
    rw [h1] at p1
    simp! only [p1, p2, in_non2, Option.isNone_none, Bool.true_or, gc_same]
    rfl
  | some p =>
    rw [h1] at p1
    cases h2 : placeL ps c with
    | none =>
      rw [h2] at p2
      simp! only [p1, p2, in_non2, Option.isNone_none, Option.isNone_some, Bool.false_or, gc_same]
      rfl
    | some q =>
      rw [h2] at p2
      dsimp only
      have hn2 : cmpS .In .non (.lst [.int (p : Nat), .int (q : Nat)]) M = .ok (.val (.bl false)) M := in_non2 (some p) (some q)
      by_cases hpq : p = q
      · rw [if_pos hpq]
        simp! only [p1, p2, optN, hn2, nat_beq, decide_eq_true hpq, gc_same]
        rfl
      · rw [if_neg hpq]
        by_cases hb : d = "by"
        · rw [if_pos hb]
          have r2 := sp_rem2 (M := M) (k + 1) "between" p q (w := e) hf
          simp! only [p1, p2, optN, hn2, nat_beq, decide_eq_false hpq, e6, hd.ok, str_beq, decide_eq_true hb, cut46, r2, gc_same]
          cases remL e f <;> rfl
        · rw [if_neg hb]
          simp! only [p1, p2, optN, hn2, nat_beq, decide_eq_false hpq, e6, hd.ok, str_beq, decide_eq_false hb, gc_same]
          rfl
theorem sp_apart (k : Nat) (P : Pps ps) (hb : Wd b) (hc : Wd c) (hd : Wd d) (he : Wd e) : (mkDy G T (k + 4)).call "apart_fact" [.tup (ps.map D.str), .lst [.str a, .str b, .str c, .str d, .str e]] M = .ok (.val (optF (apartL ps b c d e))) M := by
  have p1 := sp_spot_of (M := M) k P hb
  have p2 := sp_spot_of (M := M) k P hd
  have lc : ∀ {x2 x3 x4 : Option D}, l1_apart_fact (mkDy G T (k + 3)) [some (.tup (ps.map D.str)), some (.lst [.str a, .str b, .str c, .str d, .str e]), x2, x3, x4, none] M = .ok (.own (.lst [optI (numL2 (tl c) 1 16), optI (numL2 (tl e) 1 16)])) M := fun {x2 x3 x4} => by
    unfold l1_apart_fact
    simp! only []
    have z := lc_map (M := M) (g := gSeq (.tup [.str c, .str e])) (tg := gN 5) (vs := [5]) (i := 5) (env := [some (.tup (ps.map D.str)), some (.lst [.str a, .str b, .str c, .str d, .str e]), x2, x3, x4, none]) (el := mA false (mCall 3 ((mkDy G T (k + 3)).call "number_of") (mConsA false (mVar 5) (mConsA false (mVal (.int 1)) (mConsA false (mVal (.int 16)) mNil)))))
      [c, e] D.str (fun w => optI (numL2 (tl w) 1 16)) rfl rfl (g_tup _) (by rw [sizeLine_eq]; simp) (fun y hy => by
        have hy' : Wd y := by
          rcases List.mem_cons.mp hy with rfl | hy
          · exact hc
          · rw [List.mem_singleton.mp hy]; exact he
        have nb := sp_number_of (M := M) (k + 1) (lo := 1) (hi := 16) hy'
        show (mA false (mCall 3 ((mkDy G T (k + 3)).call "number_of") (mConsA false (mVar 5) (mConsA false (mVal (.int 1)) (mConsA false (mVal (.int 16)) mNil))))) [some (.tup (ps.map D.str)), some (.lst [.str a, .str b, .str c, .str d, .str e]), x2, x3, x4, some (.str y)] M = _
        simp! only [nb])
    rw [show [c, e].length = 2 from rfl] at z
    rw [z]
    rfl
  rw [c_apart_fact]
  unfold m_apart_fact apartL
  have pt : ∀ (e : Sl) (a b : Nat) (x y : D), putE e [(a, x), (b, y)] = (e.set a (some x)).set b (some y) := fun _ _ _ _ _ => rfl
  cases h1 : spotL ps (tl b) with
  | none =>
    rw [h1] at p1
    simp! only [p1, p2, optS, List.zip_cons_cons, List.zip_nil_right, pt, lc, gc_same]
    rfl
  | some x =>
    obtain ⟨p, n1⟩ := x
    rw [h1] at p1
    cases h2 : spotL ps (tl d) with
    | none =>
      rw [h2] at p2
      simp! only [p1, p2, optS, List.zip_cons_cons, List.zip_nil_right, pt, lc, gc_same]
      rfl
    | some y =>
      obtain ⟨q, n2⟩ := y
      rw [h2] at p2
      dsimp only
      by_cases hpq : p = q
      · rw [if_pos hpq]
        simp! only [p1, p2, optS, List.zip_cons_cons, List.zip_nil_right, pt, lc, nat_beq, decide_eq_true hpq, gc_same]
        rfl
      · rw [if_neg hpq]
        cases g1 : numL2 (tl c) 1 16 with
        | none =>
          rw [g1] at lc
          simp! only [p1, p2, optS, List.zip_cons_cons, List.zip_nil_right, pt, lc, nat_beq, decide_eq_false hpq, in_nonI, Option.isNone_none, Bool.true_or, gc_same]
          rfl
        | some v1 =>
          cases g2 : numL2 (tl e) 1 16 with
          | none =>
            rw [g1, g2] at lc
            simp! only [p1, p2, optS, List.zip_cons_cons, List.zip_nil_right, pt, lc, nat_beq, decide_eq_false hpq, in_nonI, Option.isNone_none, Option.isNone_some, Bool.false_or, gc_same]
            rfl
          | some v2 =>
            rw [g1, g2] at lc
            have hn2 : cmpS .In .non (.lst [.int v1, .int v2]) M = .ok (.val (.bl false)) M := in_nonI (some v1) (some v2)
            simp! only [p1, p2, optS, List.zip_cons_cons, List.zip_nil_right, pt, lc, nat_beq, decide_eq_false hpq, optI, hn2, gc_same]
            rfl
end
theorem len56 (n : Nat) : cmpS .In (.int (n : Nat)) (.tup [.int 5, .int 6]) M = .ok (.val (.bl (decide (n = 5 ∨ n = 6)))) M := by
  show rB (inO (.int (n : Nat)) (.tup [.int 5, .int 6]) M) M = _
  have : inO (.int (n : Nat)) (.tup [.int 5, .int 6]) M = some (decide (n = 5 ∨ n = 6)) := by
    show (if flatD (.int (n : Nat)) = true ∧ [D.int 5, D.int 6].all flatD = true then (match (D.int (n : Nat)).py0, pyL [D.int 5, D.int 6] with
      | some p, some l => some (l.any fun z => PyData.eqv z p)
      | _, _ => none) else none) = _
    rw [if_pos ⟨rfl, rfl⟩]
    show some ([PyData.int 5, PyData.int 6].any fun z => PyData.eqv z (.int (n : Nat))) = _
    simp only [List.any_cons, List.any_nil, PyData.eqv, Bool.or_false]
    have a5 : ((5 : Int) == (n : Int)) = decide (n = 5) := by
      rw [show (5 : Int) = ((5 : Nat) : Int) from rfl, nat_beq]
      exact decide_eq_decide.mpr eq_comm
    have a6 : ((6 : Int) == (n : Int)) = decide (n = 6) := by
      rw [show (6 : Int) = ((6 : Nat) : Int) from rfl, nat_beq]
      exact decide_eq_decide.mpr eq_comm
    rw [a5, a6, Bool.decide_or]
  rw [this]
  rfl
theorem int_nat4 (n : Nat) : ((n : Int) == 4) = decide (n = 4) := nat_beq n 4
theorem int_nat5 (n : Nat) : ((n : Int) == 5) = decide (n = 5) := nat_beq n 5
theorem sp_fact_of (k : Nat) {ps ws : List Str} (P : Pps ps) (hw : ∀ w ∈ ws, Wd w) : (mkDy G T (k + 6)).call "fact_of" [.tup (ps.map D.str), .lst (ws.map D.str)] M = .ok (.val (optF (factL ps ws))) M := by
  rw [c_fact_of]
  unfold m_fact_of factL
  split
  · rename_i a b c d
    have wa := hw a (by simp)
    have wb := hw b (by simp)
    have wd := hw d (by simp)
    have p1 := sp_place_of (M := M) (k + 1) P wa
    by_cases hb : b = "by"
    · rw [if_pos hb]
      have r1 := sp_rem1 (M := M) (k + 2) "by" (placeL ps a) (w := c) wd
      simp! only [int_nat4, wb.ok, str_beq, decide_eq_true hb, decide_true, p1, cut24, r1, gc_same]
      unfold byL
      cases placeL ps a with
      | none => rfl
      | some p => cases remL c d <;> rfl
    · rw [if_neg hb]
      simp! only [int_nat4, int_nat5, wb.ok, str_beq, decide_eq_false hb, len56, gc_same]
      rfl
  · rename_i a b c d e
    have wa := hw a (by simp)
    have wb := hw b (by simp)
    have wc := hw c (by simp)
    have wd := hw d (by simp)
    have we := hw e (by simp)
    by_cases ha : a = "apart"
    · rw [if_pos ha]
      have r1 := sp_apart (M := M) (k + 1) (a := a) P wb wc wd we
      simp! only [int_nat4, int_nat5, wa.ok, str_beq, decide_eq_true ha, r1, gc_same]
      try rfl
    · rw [if_neg ha]
      by_cases hb : b = "to"
      · rw [if_pos hb]
        have r1 := sp_lim (M := M) k (b := b) P wa wc wd we
        simp! only [int_nat4, int_nat5, wa.ok, wb.ok, str_beq, decide_eq_false ha, len56, decide_eq_true hb, r1, gc_same]
        try rfl
      · rw [if_neg hb]
        simp! only [int_nat4, int_nat5, wa.ok, wb.ok, str_beq, decide_eq_false ha, len56, decide_eq_false hb, gc_same]
        rfl
  · rename_i a b c d e f
    have wa := hw a (by simp)
    have wb := hw b (by simp)
    have wc := hw c (by simp)
    have wd := hw d (by simp)
    have wf := hw f (by simp)
    by_cases hb : b = "to"
    · rw [if_pos hb]
      have r1 := sp_gap (M := M) k (b := b) (e := e) P wa wc wd wf
      simp! only [int_nat4, int_nat5, wa.ok, wb.ok, str_beq, len56, decide_eq_true hb, r1, gc_same]
      try rfl
    · rw [if_neg hb]
      simp! only [int_nat4, int_nat5, wa.ok, wb.ok, str_beq, len56, decide_eq_false hb, gc_same]
      rfl
  · rename_i h4 h5 h6
    have l4 : ws.length ≠ 4 := fun z => by
      match ws, z with
      | [a, b, c, d], _ => exact h4 a b c d rfl
    have l5 : ws.length ≠ 5 := fun z => by
      match ws, z with
      | [a, b, c, d, e], _ => exact h5 a b c d e rfl
    have l6 : ws.length ≠ 6 := fun z => by
      match ws, z with
      | [a, b, c, d, e, f], _ => exact h6 a b c d e f rfl
    have n56 : decide (ws.length = 5 ∨ ws.length = 6) = false := decide_eq_false (by omega)
    simp! only [List.length_map, int_nat4, int_nat5, len56, decide_eq_false l4, decide_eq_false l5, n56, gc_same]
    rfl
/-! ### far, modulus -/
def absI (i : Int) : Int := if i < 0 then -i else i
def LF.far : LF → Int
  | .apart _ c a _ e b => a + b + absI c + absI e
  | .lim _ _ _ n => absI n
  | _ => 0
def LF.md : LF → Int
  | .by_ _ m _ => m
  | .gap _ _ m _ => m
  | _ => 1
/-- what a fact that was read is like -/
def LF.good : LF → Prop
  | .lim kd _ _ _ => isLim kd = true
  | _ => True
theorem isLim_of {kd : Str} (h : isLim kd = true) : kd = "from" ∨ kd = "upto" ∨ kd = "is" := by
  unfold isLim at h
  simp only [List.any_cons, List.any_nil, Bool.or_false, Bool.or_eq_true, beq_iff_eq] at h
  rcases h with h | h | h
  · exact .inl h.symm
  · exact .inr (.inl h.symm)
  · exact .inr (.inr h.symm)
theorem sp_far_of (k : Nat) (f : LF) (h : f.good) : (mkDy G T (k + 1)).call "far_of" [f.told] M = .ok (.val (.int f.far)) M := by
  have l1 : isLim "by" = false := by decide +kernel
  have l2 : isLim "between" = false := by decide +kernel
  rw [c_far_of]
  unfold m_far_of
  cases f with
  | by_ p m r =>
    have t : decide (Str.ofString "by" = Str.ofString "apart") = false := by decide +kernel
    simp! only [LF.told, LF.far, str_beq, t, lim_lit2, l1, gc_same]
  | gap p q m r =>
    have t : decide (Str.ofString "between" = Str.ofString "apart") = false := by decide +kernel
    simp! only [LF.told, LF.far, str_beq, t, lim_lit2, l2, gc_same]
  | apart p c a q e b => simp! only [LF.told, LF.far, absI, str_beq, decide_true, gc_same]
  | lim kd p q n =>
    have so : sOk kd := by rcases isLim_of h with z | z | z <;> (rw [z]; exact sOk_lit _)
    have t : decide (kd = Str.ofString "apart") = false := by rcases isLim_of h with z | z | z <;> (rw [z]; decide +kernel)
    have h : isLim kd = true := h
    simp! only [LF.told, LF.far, absI, so, str_beq, t, lim_lit2, h, gc_same]
theorem by_lit (a : Str) : cmpS .In (.str a) (.tup [.str "by", .str "between"]) M = .ok (.val (.bl ((["by", "between"] : List Str).any fun y => y == a))) M := in_tup a ["by", "between"] M
theorem sp_modulus_of (k : Nat) (f : LF) (h : f.good) : (mkDy G T (k + 1)).call "modulus_of" [f.told] M = .ok (.val (.int f.md)) M := by
  have b1 : ((["by", "between"] : List Str).any fun y => y == "by") = true := by decide +kernel
  have b2 : ((["by", "between"] : List Str).any fun y => y == "between") = true := by decide +kernel
  have b3 : ((["by", "between"] : List Str).any fun y => y == "apart") = false := by decide +kernel
  have i4 : ∀ (a b c d : D), idxS (.tup [a, b, c, d]) (.int (-2)) M = .ok (.val c) M := fun _ _ _ _ => rfl
  have i5 : ∀ (a b c d e : D), idxS (.tup [a, b, c, d, e]) (.int (-2)) M = .ok (.val d) M := fun _ _ _ _ _ => rfl
  rw [c_modulus_of]
  unfold m_modulus_of
  cases f with
  | by_ p m r => simp! only [LF.told, LF.md, by_lit, b1, i4, gc_same]
  | gap p q m r => simp! only [LF.told, LF.md, by_lit, b2, i5, gc_same]
  | apart p c a q e b => simp! only [LF.told, LF.md, by_lit, b3, gc_same]
  | lim kd p q n =>
    have b4 : ((["by", "between"] : List Str).any fun y => y == kd) = false := by rcases isLim_of h with z | z | z <;> (rw [z]; decide +kernel)
    simp! only [LF.told, LF.md, by_lit, b4, gc_same]
theorem sp_greatest (k : Nat) (l : List Int) (a : Int) (hl : l.length < sizeLine) : (mkDy G T (k + 1)).call "greatest" [.lst (l.map D.int), .int a] M = .ok (.val (.int (maxF a l))) M := by
  have lc : l1_greatest (mkDy G T k) [some (.lst (l.map D.int)), some (.int a), none] M = .ok (.own (.lst (l.map D.int))) M := by
    unfold l1_greatest
    simp! only [List.length_map]
    rw [lc_map (M := M) (g := gSeq (.lst (l.map D.int))) (tg := gN 2) (vs := [2]) (i := 2) l D.int D.int rfl rfl (g_lst _) (by omega) (fun y hy => rfl)]
    rfl
  have sz : 1 + (l.map D.int).length ≤ sizeLine := by rw [List.length_map]; omega
  rw [c_greatest]
  unfold m_greatest
  simp! only [lc, add_lst (xs := [D.int a]) sz, max_lst, gc_same]
end

end Pc

set_option Elab.async false
set_option linter.all false
set_option maxRecDepth 100000
set_option maxHeartbeats 4000000
set_option autoImplicit false
namespace Pc
open PySem PySem.Spec PyProof.Rows L2 TL
local macro_rules | `(tactic| simp! only [$ls,*]) => `(tactic| simp -implicitDefEqProofs only [bind_ok, bnd_ok, bnd_exc, map_ok, toS_ok, tos_ok, tos_exc, seq_nx, seq_rt, sq_nx, sq_rt, sq_bk, sq_ct, sq_exc, runS_nx, runS_rt, runS_exc, noX_ok, d_val, d_own, al_val, al_f, alK_val, alK_f, alK_t, e_seq, e_next, e_bk, e_ct, e_ret, e_retN, e_ifS, e_set, e_drop, e_A, e_D, e_val, e_var0, e_varS, e_nil, e_cons, e_cmp, e_bin, e_blt, e_call, e_bl, blK_b, e_tru, trK_b, e_notT, e_andT, e_orT, e_and, andK_b, e_or, orK_b, e_not, notK_b, e_neg, negK_i, e_if, e_chain, chK_b, e_tup, e_lst, e_idx, e_attrX, e_slice, e_noP, e_partE, ptK2_i, e_star, starK_lst, starK_tup, e_meth, ma_join, ma_split, ma_append, ma_pop, ma_index, ma_extend, meK_str, meK_lst, sl_tup, sl_lst, e_lc, e_for, e_ianyO, e_ienu, e_irng1, e_irng2, e_izip, e_par, e_asg, e_sub, e_fld, e_lenO, e_dict, e_pn, e_pc, e_dnew, e_isi, e_make, e_raise, rsK_none, gcE_same, gcK_same, gcK_own0, o_dk, stK_s, eq_int, ne_int, eq_str, ne_str, sOk_lit, sOk_numS, lt_int, le_int, gt_int, ge_int, in_sign, is_non, isNot_non, is_tup, isNot_tup, is_int, isNot_int, lenO_tup, lenO_ctup, lenO_lst, lenO_scr, add_int, sub_int, int_int, abs_int, tuple_lst, tuple_tup, listO_lst, listO_tup, all_bls, o_lst, max_two, min_two, anyO_str, anyO_tup, anyO_ctup, anyO_lst, enu_tup, enu_lst, startE, w_ok, w_exc, ↓w_bnd, ↓w_bind, ↓ws_tos, ↓ws_sq, ↓ws_toS, ↓ws_seq, w_map, w_noX, w_run, w_al, w_ite, ws_nx, ws_rt, ws_bk, ws_ct, ws_exc, ws_ite, List.map_cons, List.map_nil, List.length_cons, List.length_nil, List.replicate, List.nil_append, List.cons_append, List.set_cons_zero, List.set_cons_succ, Nat.reduceAdd, Nat.reduceSub, if_true, if_false, Bool.false_eq_true, ite_true, ite_false, Bool.not_true, Bool.not_false, decide_true, decide_false, true_or, or_true, false_or, or_false, Nat.reduceEqDiff, Nat.reduceLT, Int.reduceLT, Int.reduceLE, or_self, sz0, sz1, sz2, sz3, sz4, sz5, sz6, sz7, sz8, sz9, ix_tup0, ix_tup1, ix_tup2, ix_tup3, ix_tup4, ix_tup5, ix_lst0, ix_lst1, ix_lst2, ix_lst3, ix_lst4, ix_lst5, ix_ctup0, ix_ctup1, ix_ctup2, ix_ctup3, ix_ctup4, ix_ctup5, $ls,*])
/-! K5: contracts -/
def linesL (x : Str) : List Str := if x = "" then [] else Txt.split x "\n"
section
variable {M : Mem}
theorem sp_lines_of (k : Nat) {x : Str} (h : Wd x) : (mkDy G T (k + 1)).call "lines_of" [.str x] M = .ok (.own (.lst ((linesL x).map D.str))) M := by
  have q : ((Str.ofString "\n").length == 0) = false := by decide +kernel
  rw [c_lines_of]
  unfold m_lines_of linesL
  by_cases e : x = ""
  · rw [if_pos e]
    simp! only [h.ok, str_beq, decide_eq_true e, gc_own']
  · rw [if_neg e]
    simp! only [h.ok, str_beq, decide_eq_false e, split_ok q h.sz, gc_own']
/-! ### check_pointers -/
def badFrom : Nat → List Str → List Str → Option Nat
  | _, _, [] => none
  | i, seen, p :: r => if i = 3 ∨ nameB p = false ∨ p ∈ seen then some i else badFrom (i + 1) (seen ++ [p]) r
def badP (ps : List Str) : Option Nat := match badFrom 0 [] ps with
  | some i => some i
  | none => if ps = [] then some 0 else none
theorem any_mem (ys : List Str) (a : Str) : (ys.any fun y => y == a) = decide (a ∈ ys) := by
  induction ys with
  | nil => rfl
  | cons y ys ih =>
    rw [List.any_cons, ih]
    by_cases h : y = a
    · subst h; simp
    · rw [beq_false_of_ne h]
      simp [Ne.symm h]
theorem badFrom_drop {ps : List Str} {j : Nat} (h : j < ps.length) : badFrom j (ps.take j) (ps.drop j) = if j = 3 ∨ nameB ps[j] = false ∨ ps[j] ∈ ps.take j then some j else badFrom (j + 1) (ps.take (j + 1)) (ps.drop (j + 1)) := by
  rw [List.drop_eq_getElem_cons h, badFrom, List.take_add_one, List.getElem?_eq_getElem h]
  rfl
theorem as2 {e : Sl} {a b : Nat} {x y : D} : putE e [(a, x), (b, y)] = (e.set a (some x)).set b (some y) := rfl
theorem sp_check_pointers (k : Nat) {d : D} {ps : List Str} (hs : Sq M d (ps.map D.str)) (hw : ∀ p ∈ ps, Wd p) (hl : ps.length < 2 ^ 64) :
    (mkDy G T (k + 2)).call "check_pointers" [d] M = match badP ps with | none => .ok (.val .non) M | some i => .exc "BadPointers" ["index"] [.int (i : Nat)] M := by
  have key : Wp ((mkDy G T (k + 2)).call "check_pointers" [d] M) (fun a M' => badP ps = none ∧ a = .val .non ∧ M' = M) (fun c ns ds M' => ∃ i : Nat, badP ps = some i ∧ c = "BadPointers" ∧ ns = [("index" : Str)] ∧ ds = [.int (i : Nat)] ∧ M' = M) := by
    rw [c_check_pointers, w_gc]
    unfold m_check_pointers b1_check_pointers t1_check_pointers
    simp! only [hs.enu]
    refine ws_forL (N := ps.length) (I := fun j e M' => j ≤ ps.length ∧ badFrom 0 [] ps = badFrom j (ps.take j) (ps.drop j) ∧ M' = M ∧ ∃ x1 x2 : Option D, e = [some d, x1, x2]) (fun j e M' hj ⟨_, hb, hM, x1, x2, he⟩ => ?_) (fun e M' ⟨_, hb, hM, x1, x2, he⟩ => ?_) (ps.map D.str).length 0 _ M (by rw [List.length_map]; rfl) ⟨Nat.zero_le _, by rw [List.take_zero, List.drop_zero], rfl, none, none, rfl⟩
    · subst hM he
      have hj' : j < (ps.map D.str).length := by rw [List.length_map]; exact hj
      refine ⟨_, [(1, .int (j : Nat)), (2, .str ps[j])], by rw [hs.ge, enu_at (n := 0) hj' 0], by rw [List.getElem_map]; rfl, ?_⟩
      have wj := hw ps[j] (List.getElem_mem hj)
      rw [badFrom_drop hj] at hb
      have e3 : ((j : Int) == 3) = decide (j = 3) := nat_beq j 3
      rw [as2]
      by_cases h3 : j = 3
      · rw [if_pos (.inl h3)] at hb
        simp! only [e3, decide_eq_true h3, rsK_int (fm_small (n := j) (by omega))]
        exact ⟨j, by unfold badP; rw [hb], by trivial, by trivial, by trivial, by trivial⟩
      · cases hn : nameB ps[j] with
        | false =>
          rw [hn, if_pos (.inr (.inl rfl))] at hb
          simp! only [e3, decide_eq_false h3, sp_is_name k wj, hn, rsK_int (fm_small (n := j) (by omega))]
          exact ⟨j, by unfold badP; rw [hb], by trivial, by trivial, by trivial, by trivial⟩
        | true =>
          obtain ⟨rv, hrv, hcut⟩ := hs.sl none (some (j : Int))
          rw [cutL_take, ← List.map_take] at hcut
          have hin := in_cut (M := M') hcut wj.ok (fun y hy => (hw y (List.mem_of_mem_take hy)).ok)
          rw [any_mem] at hin
          by_cases hm : ps[j] ∈ ps.take j
          · rw [if_pos (.inr (.inr hm))] at hb
            simp! only [e3, decide_eq_false h3, sp_is_name k wj, hn, hrv, hin, decide_eq_true hm, rsK_int (fm_small (n := j) (by omega))]
            exact ⟨j, by unfold badP; rw [hb], by trivial, by trivial, by trivial, by trivial⟩
          · rw [hn, if_neg (fun z => z.elim h3 fun z => z.elim (fun z => by cases z) hm)] at hb
            simp! only [e3, decide_eq_false h3, sp_is_name k wj, hn, hrv, hin, decide_eq_false hm]
            exact ⟨hj, hb, by trivial, _, _, rfl⟩
    · subst hM he
      refine ⟨by rw [hs.ge, List.getElem?_eq_none (by rw [enus_len, List.length_map]; exact Nat.le_refl _)], ?_⟩
      rw [List.drop_length, badFrom] at hb
      have e0 : (((ps.map D.str).length : Int) == 0) = decide (ps = []) := by
        rw [List.length_map, show (0 : Int) = ((0 : Nat) : Int) from rfl, nat_beq]
        exact decide_eq_decide.mpr List.length_eq_zero_iff
      have fm0 : fmD (.int 0) = true := by decide +kernel
      by_cases hp : ps = []
      · simp! only [hs.len, e0, decide_eq_true hp, rsK_int fm0]
        exact ⟨0, by unfold badP; rw [hb]; dsimp only; rw [if_pos hp], by trivial, by trivial, by rfl, by trivial⟩
      · simp! only [hs.len, e0, decide_eq_false hp]
        exact ⟨by unfold badP; rw [hb]; dsimp only; rw [if_neg hp], by trivial, by trivial⟩
  generalize (mkDy G T (k + 2)).call "check_pointers" [d] M = r at key ⊢
  cases r with
  | ok a M' => obtain ⟨h1, rfl, rfl⟩ := key; rw [h1]
  | exc c ns ds M' => obtain ⟨i, h1, rfl, rfl, rfl, rfl⟩ := key; rw [h1]
  | stuck => exact key.elim
/-! ### read_facts -/
theorem spl_mem (s : Nat) : ∀ (l acc : List Nat) (p : List Nat), p ∈ spl [s] 0 acc l → p.length ≤ acc.length + l.length ∧ ∀ c ∈ p, c ∈ acc ∨ c ∈ l
  | [], acc, p, h => by
    rw [spl_nil] at h
    rw [List.mem_singleton.mp h]
    exact ⟨by simp, fun c hc => .inl hc⟩
  | c :: l, acc, p, h => by
    by_cases e : c = s
    · subst e
      rw [spl_hit (by simp [pre])] at h
      rcases List.mem_cons.mp h with rfl | h
      · exact ⟨by simp, fun c hc => .inl hc⟩
      · obtain ⟨h1, h2⟩ := spl_mem c l [] p h
        refine ⟨by simp at h1 ⊢; omega, fun x hx => ?_⟩
        rcases h2 x hx with z | z
        · cases z
        · exact .inr (List.mem_cons_of_mem _ z)
    · rw [spl_miss (by simp [pre, e, Ne.symm e])] at h
      obtain ⟨h1, h2⟩ := spl_mem s l (acc ++ [c]) p h
      refine ⟨by simp at h1 ⊢; omega, fun x hx => ?_⟩
      rcases h2 x hx with z | z
      · rcases List.mem_append.mp z with z | z
        · exact .inl z
        · rw [List.mem_singleton.mp z]; exact .inr List.mem_cons_self
      · exact .inr (List.mem_cons_of_mem _ z)
theorem split_eq {s : Nat} {y : Str} (hy : tl y = [s]) (hs : s < 256) (w : Str) : (Txt.split w y).map tl = spl [s] 0 [] (tl w) := by
  have e := split_spl w y (by rw [hy]; simp) (kind_ok (by
    rw [Array.all_eq_true]
    intro i hi
    have : y.cps[i] ∈ tl y := Array.getElem_mem_toList hi
    rw [hy] at this
    have : y.cps[i] = s := by simpa using this
    simp [this, hs]))
  rw [hy] at e
  exact e
theorem split_wd {s : Nat} {y w v : Str} (hy : tl y = [s]) (hs : s < 256) (h : Wd w) (hv : v ∈ Txt.split w y) : Wd v := by
  have e := split_eq hy hs w
  have hm : tl v ∈ spl [s] 0 [] (tl w) := by rw [← e]; exact List.mem_map_of_mem hv
  obtain ⟨h1, h2⟩ := spl_mem s (tl w) [] (tl v) hm
  refine h.of (fun c hc => (h2 c hc).elim (fun z => by cases z) id) ?_
  rw [len_tl, len_tl]
  simpa using h1
theorem tl_space : tl (Str.ofString " ") = [32] := by decide +kernel
theorem tl_nl : tl (Str.ofString "\n") = [10] := by decide +kernel
theorem lines_wd {x l : Str} (h : Wd x) (hl : l ∈ linesL x) : Wd l := by
  unfold linesL at hl
  split at hl
  · cases hl
  · exact split_wd tl_nl (by decide) h hl
def rdL (ps : List Str) : Nat → List Str → List Str → Sum Nat (List LF)
  | _, _, [] => .inr []
  | i, seen, l :: r => match factL ps (Txt.split l " ") with
    | none => .inl (i + 1)
    | some f => if i = 12 ∨ l ∈ seen then .inl (i + 1) else match rdL ps (i + 1) (seen ++ [l]) r with
      | .inl n => .inl n
      | .inr fs => .inr (f :: fs)
def preR (acc : List LF) : Sum Nat (List LF) → Sum Nat (List LF)
  | .inl n => .inl n
  | .inr fs => .inr (acc ++ fs)
theorem rdL_drop {ps lines : List Str} {j : Nat} (h : j < lines.length) : rdL ps j (lines.take j) (lines.drop j) = match factL ps (Txt.split lines[j] " ") with
    | none => .inl (j + 1)
    | some f => if j = 12 ∨ lines[j] ∈ lines.take j then .inl (j + 1) else preR [f] (rdL ps (j + 1) (lines.take (j + 1)) (lines.drop (j + 1))) := by
  rw [List.drop_eq_getElem_cons h, rdL, List.take_add_one, List.getElem?_eq_getElem h]
  cases factL ps (Txt.split lines[j] " ") with
  | none => rfl
  | some f =>
    dsimp only
    by_cases z : j = 12 ∨ lines[j] ∈ lines.take j
    · rw [if_pos z, if_pos z]
    · rw [if_neg z, if_neg z]
      show (match rdL ps (j + 1) (lines.take j ++ [lines[j]]) (lines.drop (j + 1)) with
        | .inl n => .inl n
        | .inr fs => .inr (f :: fs)) = preR [f] (rdL ps (j + 1) (lines.take j ++ [lines[j]]) (lines.drop (j + 1)))
      cases rdL ps (j + 1) (lines.take j ++ [lines[j]]) (lines.drop (j + 1)) <;> rfl
theorem preR_pre (a b : List LF) (s : Sum Nat (List LF)) : preR a (preR b s) = preR (a ++ b) s := by cases s <;> simp [preR]
theorem clD_told (n : Nat) (f : LF) : clD n f.told = true := by cases f <;> rfl
theorem sp_read_facts (k : Nat) {ps lines : List Str} (P : Pps ps) (hw : ∀ l ∈ lines, Wd l) (hl : lines.length < sizeLine) (hM : Clo M) :
    (mkDy G T (k + 7)).call "read_facts" [.tup (ps.map D.str), .tup (lines.map D.str)] M = match rdL ps 0 [] lines with | .inr fs => .ok (.own (.lst (fs.map LF.told))) M | .inl n => .exc "BadContract" ["line"] [.int (n : Nat)] M := by
  have hs : Sq M (.tup (lines.map D.str)) (lines.map D.str) := Sq.of_tup
  have s64 : sizeLine < 2 ^ 64 - 2 := by rw [sizeLine_eq]; decide
  have key : Wp ((mkDy G T (k + 7)).call "read_facts" [.tup (ps.map D.str), .tup (lines.map D.str)] M) (fun a M' => ∃ fs, rdL ps 0 [] lines = .inr fs ∧ a = .own (.lst (fs.map LF.told)) ∧ M' = M) (fun c ns ds M' => ∃ i : Nat, rdL ps 0 [] lines = .inl i ∧ c = "BadContract" ∧ ns = [("line" : Str)] ∧ ds = [.int (i : Nat)] ∧ M' = M) := by
    rw [c_read_facts, w_gc]
    unfold m_read_facts b1_read_facts t1_read_facts
    simp! only []
    refine ws_forL (N := lines.length) (I := fun j e M' => j ≤ lines.length ∧ ∃ acc : List LF, acc.length = j ∧ rdL ps 0 [] lines = preR acc (rdL ps j (lines.take j) (lines.drop j)) ∧ M' = M ++ [.lst (acc.map LF.told)] ∧ ∃ x3 x4 x5 : Option D, e = [some (.tup (ps.map D.str)), some (.tup (lines.map D.str)), some (.ref M.length), x3, x4, x5]) (fun j e M' hj ⟨_, acc, ha, hb, hM', x3, x4, x5, he⟩ => ?_) (fun e M' ⟨_, acc, ha, hb, hM', x3, x4, x5, he⟩ => ?_) (lines.map D.str).length 0 _ _ (by rw [List.length_map]; rfl) ⟨Nat.zero_le _, [], rfl, ?_, rfl, none, none, none, rfl⟩
    · subst hM' he
      have hj' : j < (lines.map D.str).length := by rw [List.length_map]; exact hj
      refine ⟨_, [(3, .int (j : Nat)), (4, .str lines[j])], by rw [show gEnu (.tup (lines.map D.str)) (M ++ [.lst (acc.map LF.told)]) j = some (enus (lines.map D.str))[j]? from g_etup _ _, enu_at (n := 0) hj' 0], by rw [List.getElem_map]; rfl, ?_⟩
      have wj := hw lines[j] (List.getElem_mem hj)
      have q : ((Str.ofString " ").length == 0) = false := by decide +kernel
      have fo := sp_fact_of (M := M ++ [.lst (acc.map LF.told)]) k (ws := Txt.split lines[j] " ") P (fun w hw => split_wd tl_space (by decide) wj hw)
      rw [rdL_drop hj] at hb
      have e12 : ((j : Int) == 12) = decide (j = 12) := nat_beq j 12
      have ej : ((j : Int) + 1) = ((j + 1 : Nat) : Int) := by omega
      rw [as2]
      cases hf : factL ps (Txt.split lines[j] " ") with
      | none =>
        rw [hf] at hb fo
        simp! only [split_ok q wj.sz, fo, optF, ej, rsK_int (fm_small (n := j + 1) (by omega)), gcE_cat hM (show clL M.length [.int ((j + 1 : Nat) : Int)] = true from rfl)]
        exact ⟨j + 1, hb, by trivial, by trivial, by trivial, by trivial⟩
      | some f =>
        rw [hf] at hb fo
        dsimp only at hb
        have nn : cmpS .Is f.told .non (M ++ [.lst (acc.map LF.told)]) = .ok (.val (.bl false)) (M ++ [.lst (acc.map LF.told)]) := by cases f <;> rfl
        by_cases h12 : j = 12
        · rw [if_pos (.inl h12)] at hb
          simp! only [split_ok q wj.sz, fo, optF, nn, e12, decide_eq_true h12, ej, rsK_int (fm_small (n := j + 1) (by omega)), gcE_cat hM (show clL M.length [.int ((j + 1 : Nat) : Int)] = true from rfl)]
          exact ⟨j + 1, hb, by trivial, by trivial, by trivial, by trivial⟩
        · have hin := in_cut (M := M ++ [.lst (acc.map LF.told)]) (d := .tup (cutL (lines.map D.str) none (some (j : Int)))) (ys := lines.take j) (.inr (by rw [cutL_take, ← List.map_take])) wj.ok (fun y hy => (hw y (List.mem_of_mem_take hy)).ok)
          rw [any_mem] at hin
          by_cases hm : lines[j] ∈ lines.take j
          · rw [if_pos (.inr hm)] at hb
            simp! only [split_ok q wj.sz, fo, optF, nn, e12, decide_eq_false h12, hin, decide_eq_true hm, ej, rsK_int (fm_small (n := j + 1) (by omega)), gcE_cat hM (show clL M.length [.int ((j + 1 : Nat) : Int)] = true from rfl)]
            exact ⟨j + 1, hb, by trivial, by trivial, by trivial, by trivial⟩
          · rw [if_neg (fun z => z.elim h12 hm), preR_pre] at hb
            have ap := app_ref (M := M ++ [.lst (acc.map LF.told)]) (i := M.length) (d := f.told) (xs := acc.map LF.told) (by rw [at_app0]; rfl) (by rw [List.length_map]; omega)
            have tyr := meK_ref (M := M ++ [.lst (acc.map LF.told)]) (e := [some (.tup (ps.map D.str)), some (.tup (lines.map D.str)), some (.ref M.length), some (.int (j : Nat)), some (.str lines[j]), some f.told]) (ms := mConsA false (mVar 5) mNil) appendS (ownG (mkDy G T (k + 6)) "append") "append" M.length (acc.map LF.told) (by rw [at_app0]; rfl)
            rw [set_app0] at ap
            simp! only [split_ok q wj.sz, fo, optF, nn, e12, decide_eq_false h12, hin, decide_eq_false hm, tyr, ap]
            exact ⟨hj, acc ++ [f], by simp [ha], hb, by simp, _, _, _, rfl⟩
    · subst hM' he
      refine ⟨by rw [show gEnu (.tup (lines.map D.str)) (M ++ [.lst (acc.map LF.told)]) lines.length = some (enus (lines.map D.str))[lines.length]? from g_etup _ _, List.getElem?_eq_none (by rw [enus_len, List.length_map]; exact Nat.le_refl _)], ?_⟩
      rw [List.drop_length, rdL] at hb
      simp! only [gcK_ref hM (show clO M.length (.lst (acc.map LF.told)) = true from clL_of (clD_told _) acc)]
      exact ⟨acc, by rw [hb]; simp [preR], by trivial, by trivial⟩
    · rw [List.take_zero, List.drop_zero]
      cases rdL ps 0 [] lines <;> rfl
  generalize (mkDy G T (k + 7)).call "read_facts" [.tup (ps.map D.str), .tup (lines.map D.str)] M = r at key ⊢
  cases r with
  | ok a M' => obtain ⟨fs, h1, rfl, rfl⟩ := key; rw [h1]
  | exc c ns ds M' => obtain ⟨i, h1, rfl, rfl, rfl, rfl⟩ := key; rw [h1]
  | stuck => exact key.elim
end

end Pc

set_option Elab.async false
set_option linter.all false
set_option maxRecDepth 100000
set_option maxHeartbeats 4000000
set_option autoImplicit false
namespace Pc
open PySem PySem.Spec PyProof.Rows L2 TL
local macro_rules | `(tactic| simp! only [$ls,*]) => `(tactic| simp -implicitDefEqProofs only [bind_ok, bnd_ok, bnd_exc, map_ok, toS_ok, tos_ok, tos_exc, seq_nx, seq_rt, sq_nx, sq_rt, sq_bk, sq_ct, sq_exc, runS_nx, runS_rt, runS_exc, noX_ok, d_val, d_own, al_val, al_f, alK_val, alK_f, alK_t, e_seq, e_next, e_bk, e_ct, e_ret, e_retN, e_ifS, e_set, e_drop, e_A, e_D, e_val, e_var0, e_varS, e_nil, e_cons, e_cmp, e_bin, e_blt, e_call, e_bl, blK_b, e_tru, trK_b, e_notT, e_andT, e_orT, e_and, andK_b, e_or, orK_b, e_not, notK_b, e_neg, negK_i, e_if, e_chain, chK_b, e_tup, e_lst, e_idx, e_attrX, e_slice, e_noP, e_partE, ptK2_i, e_star, starK_lst, starK_tup, e_meth, ma_join, ma_split, ma_append, ma_pop, ma_index, ma_extend, meK_str, meK_lst, sl_tup, sl_lst, e_lc, e_for, e_ianyO, e_ienu, e_irng1, e_irng2, e_izip, e_par, e_asg, e_sub, e_fld, e_lenO, e_dict, e_pn, e_pc, e_dnew, e_isi, e_make, e_raise, rsK_none, gcE_same, gcK_same, gcK_own0, o_dk, stK_s, eq_int, ne_int, eq_str, ne_str, sOk_lit, sOk_numS, lt_int, le_int, gt_int, ge_int, in_sign, is_non, isNot_non, is_tup, isNot_tup, is_int, isNot_int, lenO_tup, lenO_ctup, lenO_lst, lenO_scr, add_int, sub_int, int_int, abs_int, tuple_lst, tuple_tup, listO_lst, listO_tup, all_bls, o_lst, max_two, min_two, anyO_str, anyO_tup, anyO_ctup, anyO_lst, enu_tup, enu_lst, startE, w_ok, w_exc, ↓w_bnd, ↓w_bind, ↓ws_tos, ↓ws_sq, ↓ws_toS, ↓ws_seq, w_map, w_noX, w_run, w_al, w_ite, ws_nx, ws_rt, ws_bk, ws_ct, ws_exc, ws_ite, List.map_cons, List.map_nil, List.length_cons, List.length_nil, List.replicate, List.nil_append, List.cons_append, List.set_cons_zero, List.set_cons_succ, Nat.reduceAdd, Nat.reduceSub, if_true, if_false, Bool.false_eq_true, ite_true, ite_false, Bool.not_true, Bool.not_false, decide_true, decide_false, true_or, or_true, false_or, or_false, Nat.reduceEqDiff, Nat.reduceLT, Int.reduceLT, Int.reduceLE, or_self, sz0, sz1, sz2, sz3, sz4, sz5, sz6, sz7, sz8, sz9, ix_tup0, ix_tup1, ix_tup2, ix_tup3, ix_tup4, ix_tup5, ix_lst0, ix_lst1, ix_lst2, ix_lst3, ix_lst4, ix_lst5, ix_ctup0, ix_ctup1, ix_ctup2, ix_ctup3, ix_ctup4, ix_ctup5, $ls,*])
/-! K6: contracts made -/
def conN : List Str := ["pointers", "text", "lines", "told", "far", "modulus"]
def conD (ps : List Str) (x : Str) (fs : List LF) : List D := [.tup (ps.map D.str), .str x, .tup ((linesL x).map D.str), .lst (fs.map LF.told), .int (maxF 0 (fs.map LF.far)), .int (maxF 1 (fs.map LF.md))]
def conO (ps : List Str) (x : Str) (fs : List LF) : MO := .ins "Contract" conN (conD ps x fs)
theorem limL_good {ps : List Str} {a b c d : Str} {f : LF} (h : limL ps a b c d = some f) : f.good := by
  unfold limL at h
  split at h
  · split at h
    · cases h
    · split at h
      · rename_i hk
        cases hn : numL2 (tl d) (-40) 40 with
        | none => rw [hn] at h; cases h
        | some n => rw [hn] at h; cases h; exact hk
      · cases h
  · cases h
theorem gapL_good {ps : List Str} {a b c d e : Str} {f : LF} (h : gapL ps a b c d e = some f) : f.good := by
  unfold gapL at h
  split at h
  · split at h
    · cases h
    · split at h
      · cases hn : remL d e with
        | none => rw [hn] at h; cases h
        | some n => rw [hn] at h; cases h; trivial
      · cases h
  · cases h
theorem apartL_good {ps : List Str} {a b c d : Str} {f : LF} (h : apartL ps a b c d = some f) : f.good := by
  unfold apartL at h
  split at h
  · split at h
    · cases h
    · split at h
      · cases h; trivial
      · cases h
  · cases h
theorem byL_good {ps : List Str} {a b c : Str} {f : LF} (h : byL ps a b c = some f) : f.good := by
  unfold byL at h
  split at h
  · cases h
  · cases hn : remL b c with
    | none => rw [hn] at h; cases h
    | some n => rw [hn] at h; cases h; trivial
theorem factL_good {ps ws : List Str} {f : LF} (h : factL ps ws = some f) : f.good := by
  unfold factL at h
  split at h
  · split at h
    · exact byL_good h
    · cases h
  · split at h
    · exact apartL_good h
    · split at h
      · exact limL_good h
      · cases h
  · split at h
    · exact gapL_good h
    · cases h
  · cases h
theorem rdL_good {ps : List Str} : ∀ {lines : List Str} {i : Nat} {seen : List Str} {fs : List LF}, rdL ps i seen lines = .inr fs → fs.length = lines.length ∧ (∀ f ∈ fs, f.good) ∧ (lines ≠ [] → i + lines.length ≤ 12 ∨ 12 < i)
  | [], i, seen, fs, h => by cases h; exact ⟨rfl, fun _ z => (List.not_mem_nil z).elim, fun z => absurd rfl z⟩
  | l :: r, i, seen, fs, h => by
    rw [rdL] at h
    cases hf : factL ps (Txt.split l " ") with
    | none => rw [hf] at h; cases h
    | some f =>
      rw [hf] at h
      dsimp only at h
      split at h
      · cases h
      · rename_i hn
        cases hr : rdL ps (i + 1) (seen ++ [l]) r with
        | inl n => rw [hr] at h; cases h
        | inr gs =>
          rw [hr] at h
          cases h
          obtain ⟨h1, h2, h3⟩ := rdL_good hr
          refine ⟨by rw [List.length_cons, List.length_cons, h1], fun x hx => ?_, fun _ => ?_⟩
          · rcases List.mem_cons.mp hx with rfl | hx
            · exact factL_good hf
            · exact h2 x hx
          · rw [List.length_cons]
            by_cases hr0 : r = []
            · subst hr0
              simp only [List.length_nil]
              by_cases z : i = 12
              · exact absurd (.inl z) hn
              · omega
            · have := h3 hr0
              have : i ≠ 12 := fun z => hn (.inl z)
              omega
section
variable {M : Mem}
theorem ok_con : ∀ f ∈ conN, okB G "Contract" f = true := by
  intro f hf
  have : conN.all (fun f => okB G "Contract" f) = true := by kernel_rfl
  exact List.all_eq_true.mp this f hf
theorem l_far (k : Nat) {fs : List LF} (hg : ∀ f ∈ fs, f.good) (hl : fs.length < sizeLine) {x0 x1 x2 : D} {ds : List D} {ns : List Str} (ht : lookD ns ds ("told" : Str) = some (.lst (fs.map LF.told))) {y1 y2 : Option D} :
    l2_Contract_init (mkDy G T (k + 1)) [some (.ref M.length), y1, y2, none] (M ++ [MO.ins "Contract" ns ds]) = .ok (.own (.lst (fs.map fun f => D.int f.far))) (M ++ [MO.ins "Contract" ns ds]) := by
  unfold l2_Contract_init
  simp! only [attrX_new (ok_con "told" (by simp [conN])) ht, List.length_map]
  rw [lc_map (M := M ++ [MO.ins "Contract" ns ds]) (g := gSeq (.lst (fs.map LF.told))) (tg := gN 3) (vs := [3]) (i := 3) fs LF.told (fun f => D.int f.far) rfl rfl (g_lst _) (by omega) (fun y hy => by
    show (mA false (mCall 1 ((mkDy G T (k + 1)).call "far_of") (mConsA false (mVar 3) mNil))) [some (.ref M.length), y1, y2, some y.told] (M ++ [MO.ins "Contract" ns ds]) = _
    simp! only [sp_far_of k y (hg y hy)])]
  rfl
theorem l_md (k : Nat) {fs : List LF} (hg : ∀ f ∈ fs, f.good) (hl : fs.length < sizeLine) {ds : List D} {ns : List Str} (ht : lookD ns ds ("told" : Str) = some (.lst (fs.map LF.told))) {y1 y2 : Option D} :
    l1_Contract_init (mkDy G T (k + 1)) [some (.ref M.length), y1, y2, none] (M ++ [MO.ins "Contract" ns ds]) = .ok (.own (.lst (fs.map fun f => D.int f.md))) (M ++ [MO.ins "Contract" ns ds]) := by
  unfold l1_Contract_init
  simp! only [attrX_new (ok_con "told" (by simp [conN])) ht, List.length_map]
  rw [lc_map (M := M ++ [MO.ins "Contract" ns ds]) (g := gSeq (.lst (fs.map LF.told))) (tg := gN 3) (vs := [3]) (i := 3) fs LF.told (fun f => D.int f.md) rfl rfl (g_lst _) (by omega) (fun y hy => by
    show (mA false (mCall 1 ((mkDy G T (k + 1)).call "modulus_of") (mConsA false (mVar 3) mNil))) [some (.ref M.length), y1, y2, some y.told] (M ++ [MO.ins "Contract" ns ds]) = _
    simp! only [sp_modulus_of k y (hg y hy)])]
  rfl
theorem greatest_map (k : Nat) (l : List LF) (g : LF → Int) (a : Int) (hl : l.length < sizeLine) (M : Mem) : (mkDy G T (k + 1)).call "greatest" [.lst (l.map fun f => D.int (g f)), .int a] M = .ok (.val (.int (maxF a (l.map g)))) M := by
  have := sp_greatest (M := M) k (l.map g) a (by rw [List.length_map]; exact hl)
  rw [List.map_map] at this
  exact this
theorem setF_con {f : Str} {ns : List Str} {ds : List D} {v : D} (h : f ∈ conN) (hn : ns.length < 1000) : setF (okB G) f (.ref M.length) v (M ++ [MO.ins "Contract" ns ds]) = some (M ++ [MO.ins "Contract" (putN ns ds f v).1 (putN ns ds f v).2]) := setF_new (ok_con f h) hn
theorem clD_con (n : Nat) (ps : List Str) (x : Str) (fs : List LF) : clO n (conO ps x fs) = true := by
  show (clL n (ps.map D.str) && (true && (clL n ((linesL x).map D.str) && (clL n (fs.map LF.told) && (true && (true && true)))))) = true
  rw [clL_strs, clL_strs, clL_of (clD_told n)]
  rfl
theorem w_contract (k : Nat) {d : D} {ps : List Str} {x : Str} (hs : ∀ L, Sq (M ++ L) d (ps.map D.str)) (hw : ∀ p ∈ ps, Wd p) (hps : ps.length < sizeLine) (hx : Wd x) (hxl : (linesL x).length < sizeLine) (hM : Clo M) :
    Wp (mkK false "Contract" 3 ((mkDy G T (k + 9)).meth "Contract" "__init__") [d, .str x] M) (fun a M' => badP ps = none ∧ ∃ fs, rdL ps 0 [] (linesL x) = .inr fs ∧ a = .own (conO ps x fs) ∧ M' = M)
      (fun c ns ds M' => (∃ o, clO M.length o = true ∧ M' = M ++ [o]) ∧ ((∃ i : Nat, badP ps = some i ∧ c = "BadPointers" ∧ ns = [("index" : Str)] ∧ ds = [.int (i : Nat)]) ∨ (badP ps = none ∧ ∃ n : Nat, rdL ps 0 [] (linesL x) = .inl n ∧ c = "BadContract" ∧ ns = [("line" : Str)] ∧ ds = [.int (n : Nat)]))) := by
  have s64 : sizeLine < 2 ^ 64 - 2 := by rw [sizeLine_eq]; decide
  unfold mkK
  rw [if_pos (by rfl), w_bind, c_Contract_init, w_gc]
  unfold m_Contract_init
  have hM1 : ∀ {ns : List Str} {ds : List D}, clL (M.length + 1) ds = true → Clo (M ++ [MO.ins "Contract" ns ds]) := fun h => hM.add h
  have c0 : ∀ {o : MO}, (M ++ [o]).length = M.length + 1 := by simp
  have gce : ∀ {o : MO} {c : Str} {ns : List Str} {ds : List D}, gcE (M ++ [MO.ins "Contract" [] []]).length c ns ds (M ++ [o]) = .exc c ns ds (M ++ [o]) := fun {o c ns ds} => by
    rw [show (M ++ [MO.ins "Contract" [] []]).length = (M ++ [o]).length from by simp]; exact gcE_same
  have gck : ∀ {o : MO} {d : D}, gcK (M ++ [MO.ins "Contract" [] []]).length (.val d) (M ++ [o]) = .ok (.val d) (M ++ [o]) := fun {o d} => by
    rw [show (M ++ [MO.ins "Contract" [] []]).length = (M ++ [o]).length from by simp]; exact gcK_same
  have cp := sp_check_pointers (M := M ++ [MO.ins "Contract" [] []]) (k + 6) (hs _) hw (by omega)
  cases hb : badP ps with
  | some i =>
    rw [hb] at cp
    simp! only [cp, gce]
    exact ⟨⟨MO.ins "Contract" [] [], by rfl, by trivial⟩, .inl ⟨i, by trivial, by trivial, by trivial, by trivial⟩⟩
  | none =>
    rw [hb] at cp
    have few : ps.length ≤ 3 := by
      unfold badP at hb
      cases hf : badFrom 0 [] ps with
      | some i => rw [hf] at hb; cases hb
      | none =>
        have : ∀ (l seen : List Str) (i : Nat), i ≤ 3 → badFrom i seen l = none → i + l.length ≤ 3 := by
          intro l
          induction l with
          | nil => intro seen i hi _; simpa using hi
          | cons a l ih =>
            intro seen i hi h
            rw [badFrom] at h
            split at h
            · cases h
            · rename_i hn
              have := ih _ (i + 1) (by have : i ≠ 3 := fun z => hn (.inl z); omega) h
              rw [List.length_cons]; omega
        have := this ps [] 0 (by decide) hf
        omega
    have P : Pps ps := ⟨few, fun p hp => (hw p hp).ok⟩
    have i1 : ("pointers" : Str) ∈ conN := by simp [conN]
    have i2 : ("text" : Str) ∈ conN := by simp [conN]
    have i3 : ("lines" : Str) ∈ conN := by simp [conN]
    have i4 : ("told" : Str) ∈ conN := by simp [conN]
    have i5 : ("far" : Str) ∈ conN := by simp [conN]
    have i6 : ("modulus" : Str) ∈ conN := by simp [conN]
    have tp := (hs [MO.ins "Contract" [] []]).tup
    have e1 : ∀ v : D, putN [] [] ("pointers" : Str) v = ([("pointers" : Str)], [v]) := fun v => rfl
    have e2 : ∀ a v : D, putN [("pointers" : Str)] [a] ("text" : Str) v = ([("pointers" : Str), "text"], [a, v]) := fun a v => by kernel_rfl
    have e3 : ∀ a b v : D, putN [("pointers" : Str), "text"] [a, b] ("lines" : Str) v = ([("pointers" : Str), "text", "lines"], [a, b, v]) := fun a b v => by kernel_rfl
    have e4 : ∀ a b c v : D, putN [("pointers" : Str), "text", "lines"] [a, b, c] ("told" : Str) v = ([("pointers" : Str), "text", "lines", "told"], [a, b, c, v]) := fun a b c v => by kernel_rfl
    have e5 : ∀ a b c d v : D, putN [("pointers" : Str), "text", "lines", "told"] [a, b, c, d] ("far" : Str) v = ([("pointers" : Str), "text", "lines", "told", "far"], [a, b, c, d, v]) := fun a b c d v => by kernel_rfl
    have e6 : ∀ a b c d e v : D, putN [("pointers" : Str), "text", "lines", "told", "far"] [a, b, c, d, e] ("modulus" : Str) v = (conN, [a, b, c, d, e, v]) := fun a b c d e v => by kernel_rfl
    have a1 : ∀ a b c : D, attrX (okB G) (oxB G) "pointers" (.ref M.length) (M ++ [MO.ins "Contract" [("pointers" : Str), "text", "lines"] [a, b, c]]) = .ok (.val a) (M ++ [MO.ins "Contract" [("pointers" : Str), "text", "lines"] [a, b, c]]) := fun a b c => attrX_new (ok_con _ i1) (by kernel_rfl)
    have a2 : ∀ a b c : D, attrX (okB G) (oxB G) "lines" (.ref M.length) (M ++ [MO.ins "Contract" [("pointers" : Str), "text", "lines"] [a, b, c]]) = .ok (.val c) (M ++ [MO.ins "Contract" [("pointers" : Str), "text", "lines"] [a, b, c]]) := fun a b c => attrX_new (ok_con _ i3) (by kernel_rfl)
    have rf := sp_read_facts (M := M ++ [MO.ins "Contract" [("pointers" : Str), "text", "lines"] [.tup (ps.map D.str), .str x, .tup ((linesL x).map D.str)]]) (k + 1) P (fun l hl => lines_wd hx hl) hxl (hM1 (by show (clL _ (ps.map D.str) && (true && (clL _ ((linesL x).map D.str) && true))) = true; rw [clL_strs, clL_strs]; rfl))
    cases hr : rdL ps 0 [] (linesL x) with
    | inl n =>
      rw [hr] at rf
      simp! only [cp, tp, setF_con i1, e1, setF_con i2, e2, sp_lines_of (k + 7) hx, setF_con i3, e3, a1, a2, rf, gce]
      refine ⟨⟨_, ?_, by trivial⟩, .inr ⟨by trivial, n, by trivial, by trivial, by trivial, by trivial⟩⟩
      show (clL _ (ps.map D.str) && (true && (clL _ ((linesL x).map D.str) && true))) = true
      rw [clL_strs, clL_strs]
      rfl
    | inr fs =>
      rw [hr] at rf
      obtain ⟨r1, r2, r3⟩ := rdL_good hr
      have hfl : fs.length < sizeLine := by omega
      have lf := fun (ns : List Str) (ds : List D) ht => l_far (M := M) (k + 7) (fs := fs) r2 hfl (x0 := .non) (x1 := .non) (x2 := .non) (ns := ns) (ds := ds) ht (y1 := some d) (y2 := some (.str x))
      have lm := fun (ns : List Str) (ds : List D) ht => l_md (M := M) (k + 7) (fs := fs) r2 hfl (ns := ns) (ds := ds) ht (y1 := some d) (y2 := some (.str x))
      have lf' := fun a b c => lf [("pointers" : Str), "text", "lines", "told"] [a, b, c, .lst (fs.map LF.told)] (by kernel_rfl)
      have lm' := fun a b c e => lm [("pointers" : Str), "text", "lines", "told", "far"] [a, b, c, .lst (fs.map LF.told), e] (by kernel_rfl)
      simp! only [cp, tp, setF_con i1, e1, setF_con i2, e2, sp_lines_of (k + 7) hx, setF_con i3, e3, a1, a2, rf, setF_con i4, e4, lf', greatest_map (k + 7) fs LF.far 0 hfl, setF_con i5, e5, lm', greatest_map (k + 7) fs LF.md 1 hfl, setF_con i6, e6, gck]
      have md : made M.length (M ++ [conO ps x fs]) = .ok (.own (conO ps x fs)) M := made_new hM (clD_con _ ps x fs)
      unfold conO conD at md
      simp! only [md]
      exact ⟨by trivial, fs, by trivial, by trivial, by trivial⟩
/-- a good contract -/
theorem sp_contract (k : Nat) {d : D} {ps : List Str} {x : Str} {fs : List LF} (hs : ∀ L, Sq (M ++ L) d (ps.map D.str)) (hw : ∀ p ∈ ps, Wd p) (hps : ps.length < sizeLine) (hx : Wd x) (hxl : (linesL x).length < sizeLine) (hM : Clo M) (hb : badP ps = none) (hr : rdL ps 0 [] (linesL x) = .inr fs) :
    mkK false "Contract" 3 ((mkDy G T (k + 9)).meth "Contract" "__init__") [d, .str x] M = .ok (.own (conO ps x fs)) M := by
  have key := w_contract k hs hw hps hx hxl hM
  generalize mkK false "Contract" 3 ((mkDy G T (k + 9)).meth "Contract" "__init__") [d, .str x] M = r at key ⊢
  cases r with
  | ok a M' => obtain ⟨h1, gs, h2, rfl, rfl⟩ := key; rw [hr] at h2; cases h2; rfl
  | exc c ns ds M' =>
    obtain ⟨_, ⟨i, h, _⟩ | ⟨_, n, h, _⟩⟩ := key
    · rw [hb] at h; cases h
    · rw [hr] at h; cases h
  | stuck => exact key.elim
end

end Pc

set_option Elab.async false
set_option linter.all false
set_option maxRecDepth 100000
set_option maxHeartbeats 4000000
set_option autoImplicit false
namespace Pc
open PySem PySem.Spec PyProof.Rows L2 TL
local macro_rules | `(tactic| simp! only [$ls,*]) => `(tactic| simp -implicitDefEqProofs only [bind_ok, bnd_ok, bnd_exc, map_ok, toS_ok, tos_ok, tos_exc, seq_nx, seq_rt, sq_nx, sq_rt, sq_bk, sq_ct, sq_exc, runS_nx, runS_rt, runS_exc, noX_ok, d_val, d_own, al_val, al_f, alK_val, alK_f, alK_t, e_seq, e_next, e_bk, e_ct, e_ret, e_retN, e_ifS, e_set, e_drop, e_A, e_D, e_val, e_var0, e_varS, e_nil, e_cons, e_cmp, e_bin, e_blt, e_call, e_bl, blK_b, e_tru, trK_b, e_notT, e_andT, e_orT, e_and, andK_b, e_or, orK_b, e_not, notK_b, e_neg, negK_i, e_if, e_chain, chK_b, e_tup, e_lst, e_idx, e_attrX, e_slice, e_noP, e_partE, ptK2_i, e_star, starK_lst, starK_tup, e_meth, ma_join, ma_split, ma_append, ma_pop, ma_index, ma_extend, meK_str, meK_lst, sl_tup, sl_lst, e_lc, e_for, e_ianyO, e_ienu, e_irng1, e_irng2, e_izip, e_par, e_asg, e_sub, e_fld, e_lenO, e_dict, e_pn, e_pc, e_dnew, e_isi, e_make, e_raise, rsK_none, gcE_same, gcK_same, gcK_own0, o_dk, stK_s, eq_int, ne_int, eq_str, ne_str, sOk_lit, sOk_numS, lt_int, le_int, gt_int, ge_int, in_sign, is_non, isNot_non, is_tup, isNot_tup, is_int, isNot_int, lenO_tup, lenO_ctup, lenO_lst, lenO_scr, add_int, sub_int, int_int, abs_int, tuple_lst, tuple_tup, listO_lst, listO_tup, all_bls, o_lst, max_two, min_two, anyO_str, anyO_tup, anyO_ctup, anyO_lst, enu_tup, enu_lst, startE, w_ok, w_exc, ↓w_bnd, ↓w_bind, ↓ws_tos, ↓ws_sq, ↓ws_toS, ↓ws_seq, w_map, w_noX, w_run, w_al, w_ite, ws_nx, ws_rt, ws_bk, ws_ct, ws_exc, ws_ite, List.map_cons, List.map_nil, List.length_cons, List.length_nil, List.replicate, List.nil_append, List.cons_append, List.set_cons_zero, List.set_cons_succ, Nat.reduceAdd, Nat.reduceSub, if_true, if_false, Bool.false_eq_true, ite_true, ite_false, Bool.not_true, Bool.not_false, decide_true, decide_false, true_or, or_true, false_or, or_false, Nat.reduceEqDiff, Nat.reduceLT, Int.reduceLT, Int.reduceLE, or_self, sz0, sz1, sz2, sz3, sz4, sz5, sz6, sz7, sz8, sz9, ix_tup0, ix_tup1, ix_tup2, ix_tup3, ix_tup4, ix_tup5, ix_lst0, ix_lst1, ix_lst2, ix_lst3, ix_lst4, ix_lst5, ix_ctup0, ix_ctup1, ix_ctup2, ix_ctup3, ix_ctup4, ix_ctup5, $ls,*])
/-! K7: facts told as texts are read again (no program in sight) -/
theorem countL_num (n : Nat) : countL (numL n) = true := by
  by_cases h0 : n = 0
  · subst h0
    rw [numL_lt (by decide)]
    rfl
  · obtain ⟨c, r, e, h1, h2⟩ := numL_head n (by omega)
    have dg := numL_digits n
    rw [e] at dg ⊢
    have : ((c :: r).all fun x => decide (48 ≤ x ∧ x ≤ 57)) = true := List.all_eq_true.mpr fun x hx => decide_eq_true (dg x hx)
    show (((c :: r).all fun x => decide (48 ≤ x ∧ x ≤ 57)) && (decide (c ≠ 48) || r.isEmpty)) = true
    rw [this, decide_eq_true (show c ≠ 48 by omega)]
    rfl
theorem tl_num_nonneg {i : Int} (h : 0 ≤ i) : tl (numS i) = numL i.toNat := by
  obtain ⟨n, rfl⟩ := Int.eq_ofNat_of_zero_le h
  exact tl_numS n
theorem tl_num_neg {i : Int} (h : i < 0) : tl (numS i) = 45 :: numL (-i).toNat := by
  obtain ⟨n, hn⟩ := Int.eq_ofNat_of_zero_le (a := -i) (by omega)
  have e : i = -(n : Int) := by omega
  subst e
  rw [tl_numS_neg n (by omega), show (-(-(n : Int))).toNat = n by omega]
theorem numL2_nat {n : Nat} {lo hi : Int} (h : n < 10000) (h1 : lo ≤ n) (h2 : (n : Int) ≤ hi) : numL2 (numL n) lo hi = some (n : Int) := by
  have hl : (numL n).length ≤ 4 := numL_len (by decide) (by omega)
  have hw : within ((PySem.NumText.digitsVal (numL n) : Nat) : Int) lo hi = some (n : Int) := by
    rw [numL_val]; unfold within; rw [if_pos h1, if_pos h2]
  have hn : numL2 (numL n) lo hi = if countL (numL n) = true ∧ (numL n).length ≤ 4 then within ((PySem.NumText.digitsVal (numL n) : Nat) : Int) lo hi else none := by
    unfold numL2
    split
    · rename_i r e
      have := numL_digits n 45 (by rw [e]; exact List.mem_cons_self)
      omega
    · rfl
  rw [hn, if_pos ⟨countL_num n, hl⟩, hw]
theorem numL2_num {i lo hi : Int} (h : -10000 < i ∧ i < 10000) (h1 : lo ≤ i) (h2 : i ≤ hi) : numL2 (tl (numS i)) lo hi = some i := by
  by_cases h0 : 0 ≤ i
  · rw [tl_num_nonneg h0, numL2_nat (by omega) (by omega) (by omega)]
    congr 1
    omega
  · rw [tl_num_neg (by omega)]
    have hl : (numL (-i).toNat).length ≤ 4 := numL_len (by decide) (by omega)
    have hn : numL2 (45 :: numL (-i).toNat) lo hi = if countL (numL (-i).toNat) = true ∧ numL (-i).toNat ≠ [48] ∧ (numL (-i).toNat).length ≤ 4 then within (-((PySem.NumText.digitsVal (numL (-i).toNat) : Nat) : Int)) lo hi else none := rfl
    obtain ⟨c, r, e, c1, c2⟩ := numL_head (-i).toNat (by omega)
    rw [hn, if_pos ⟨countL_num _, by rw [e]; intro z; injection z; omega, hl⟩, numL_val]
    unfold within
    rw [if_pos (by omega), if_pos (by omega)]
    congr 1
    omega
/-- the pointers of a law -/
structure PsOk (ps : List Str) : Prop where
  nd : ps.Nodup
  ok : ∀ p ∈ ps, nameB p = true
  few : ps.length ≤ 3
structure Nm (x : Str) : Prop where
  l1 : 1 ≤ x.length
  l2 : x.length ≤ 12
  lt : ∀ c ∈ tl x, 97 ≤ c ∧ c ≤ 122
  nb : (barS.any fun y => y == x) = false
theorem nm_of {x : Str} (h : nameB x = true) : Nm x := by
  unfold nameB at h
  simp only [Bool.and_eq_true, decide_eq_true_eq, Bool.not_eq_true', List.all_eq_true] at h
  exact ⟨h.1, h.2.1, h.2.2.2, h.2.2.1⟩
theorem Nm.sok {x : Str} (h : Nm x) : sOk x := sOk_of fun c hc => by have := h.lt c hc; omega
theorem Nm.wd {x : Str} (h : Nm x) : Wd x := ⟨h.sok, by have := h.l2; rw [sizeLine_eq]; omega⟩
theorem Nm.ne {x : Str} (h : Nm x) : tl x ≠ [] := fun z => by have := h.l1; rw [len_tl, z] at this; simp at this
theorem PsOk.wd {ps : List Str} (P : PsOk ps) : ∀ p ∈ ps, Wd p := fun p hp => (nm_of (P.ok p hp)).wd
theorem PsOk.pps {ps : List Str} (P : PsOk ps) : Pps ps := ⟨P.few, fun p hp => (P.wd p hp).ok⟩
theorem PsOk.badP {ps : List Str} (P : PsOk ps) (h : ps ≠ []) : badP ps = none := by
  have key : ∀ (l seen : List Str) (i : Nat), i + l.length ≤ 3 → (seen ++ l).Nodup → (∀ p ∈ l, nameB p = true) → badFrom i seen l = none := by
    intro l
    induction l with
    | nil => intro seen i _ _ _; rfl
    | cons a l ih =>
      intro seen i hi hn ho
      rw [List.length_cons] at hi
      rw [badFrom, if_neg]
      · exact ih (seen ++ [a]) (i + 1) (by omega) (by simpa using hn) fun p hp => ho p (List.mem_cons_of_mem _ hp)
      · rintro (z | z | z)
        · omega
        · rw [ho a List.mem_cons_self] at z; cases z
        · exact (List.nodup_append.mp hn).2.2 a z a List.mem_cons_self rfl
  unfold Pc.badP
  rw [key ps [] 0 (by have := P.few; omega) (by simpa using P.nd) P.ok]
  dsimp only
  rw [if_neg h]
theorem atP_at : ∀ {ps : List Str} {p : Nat} {x : Str}, ps.Nodup → ps[p]? = some x → atP ps (tl x) = some p
  | [], p, x, _, h => by simp at h
  | y :: ps, 0, x, nd, h => by
    have e : y = x := by simpa using h
    subst e
    unfold atP
    rw [List.findIdx?_cons, if_pos (decide_eq_true rfl)]
  | y :: ps, p + 1, x, nd, h => by
    have nd' := List.nodup_cons.mp nd
    have hx : ps[p]? = some x := by simpa using h
    have ne : tl y ≠ tl x := fun z => nd'.1 (str_ext z ▸ List.mem_of_getElem? hx)
    have ih := atP_at nd'.2 hx
    unfold atP at ih ⊢
    rw [List.findIdx?_cons, if_neg (by simpa using ne), ih]
    rfl
theorem spN_name {x : Str} (h : Nm x) (r : List Nat) (hr : r = [] ∨ ∃ c t, r = c :: t ∧ (c = 43 ∨ c = 45)) : spN (tl x ++ r) = tl x := by
  unfold spN
  have all : ∀ c ∈ tl x, decide (c ≠ 43 ∧ c ≠ 45) = true := fun c hc => decide_eq_true (by have := h.lt c hc; omega)
  rw [List.takeWhile_append_of_pos all]
  rcases hr with rfl | ⟨c, t, rfl, hc⟩
  · simp
  · rw [List.takeWhile_cons, if_neg (by rcases hc with rfl | rfl <;> decide)]
    simp
def sfx (k : Int) : List Nat := if k = 0 then [] else if 0 < k then 43 :: numL k.toNat else 45 :: numL (-k).toNat
def spotS (x : Str) (k : Int) : Str := ⟨(tl x ++ sfx k).toArray⟩
theorem tl_spot (x : Str) (k : Int) : tl (spotS x k) = tl x ++ sfx k := rfl
theorem spotL_spot {ps : List Str} {p : Nat} {x : Str} (P : PsOk ps) (hp : ps[p]? = some x) {n : Int} (h1 : -30 ≤ n) (h2 : n ≤ 30) : spotL ps (tl (spotS x n)) = some (p, n) := by
  have hx := nm_of (P.ok x (List.mem_of_getElem? hp))
  have hs : sfx n = [] ∨ ∃ c t, sfx n = c :: t ∧ (c = 43 ∨ c = 45) := by
    unfold sfx
    split
    · exact .inl rfl
    · split
      · exact .inr ⟨_, _, rfl, .inl rfl⟩
      · exact .inr ⟨_, _, rfl, .inr rfl⟩
  unfold spotL
  rw [tl_spot, spN_name hx _ hs, atP_at P.nd hp]
  dsimp only
  rw [List.drop_left]
  unfold sfx
  by_cases h0 : n = 0
  · rw [if_pos h0]; subst h0; rfl
  · rw [if_neg h0]
    by_cases hp : 0 < n
    · rw [if_pos hp]
      dsimp only
      rw [numL2_nat (by omega) (by omega) (by omega)]
      dsimp only
      rw [if_pos rfl]
      congr 2
      omega
    · rw [if_neg hp]
      dsimp only
      rw [numL2_nat (by omega) (by omega) (by omega)]
      dsimp only
      rw [if_neg (by decide)]
      congr 2
      omega
theorem placeL_name {ps : List Str} {p : Nat} {x : Str} (P : PsOk ps) (hp : ps[p]? = some x) : placeL ps x = some p := by
  have h0 := spotL_spot P hp (n := 0) (by decide) (by decide)
  have e : tl (spotS x 0) = tl x := by rw [tl_spot]; simp [sfx]
  rw [e] at h0
  unfold placeL
  rw [h0]
  dsimp only
  rw [if_pos (P.ok x (List.mem_of_getElem? hp))]
def MdOk (m : Int) : Prop := m = 2 ∨ m = 4 ∨ m = 8
def KwOk (kd : Str) : Prop := kd = "from" ∨ kd = "upto" ∨ kd = "is"
def LF.ok (n : Nat) : LF → Prop
  | .by_ p m r => p < n ∧ MdOk m ∧ 0 ≤ r ∧ r < m
  | .gap p q m r => p < n ∧ q < n ∧ p ≠ q ∧ MdOk m ∧ 0 ≤ r ∧ r < m
  | .apart p c a q e b => p < n ∧ q < n ∧ p ≠ q ∧ (-30 ≤ c ∧ c ≤ 30) ∧ (-30 ≤ e ∧ e ≤ 30) ∧ (1 ≤ a ∧ a ≤ 16) ∧ 1 ≤ b ∧ b ≤ 16
  | .lim kd p q n' => KwOk kd ∧ p < n ∧ q < n ∧ p ≠ q ∧ -40 ≤ n' ∧ n' ≤ 40
def LF.words (ps : List Str) : LF → List Str
  | .by_ p m r => [ps.getD p "", "by", numS m, numS r]
  | .gap p q m r => [ps.getD p "", "to", ps.getD q "", "by", numS m, numS r]
  | .apart p c a q e b => ["apart", spotS (ps.getD p "") c, numS a, spotS (ps.getD q "") e, numS b]
  | .lim kd p q n => [ps.getD p "", "to", ps.getD q "", kd, numS n]
theorem getD_at {ps : List Str} {p : Nat} (h : p < ps.length) : ps[p]? = some (ps.getD p "") := by
  rw [List.getD_eq_getElem?_getD, List.getElem?_eq_getElem h]
  rfl
theorem mdL_num {m : Int} (h : MdOk m) : mdL (numS m) = some m := by
  rcases h with h | h | h <;> (subst h; decide +kernel)
theorem remL_num {m r : Int} (hm : MdOk m) (h0 : 0 ≤ r) (h1 : r < m) : remL (numS m) (numS r) = some (m, r) := by
  have : m ≤ 8 := by rcases hm with h | h | h <;> omega
  unfold remL
  rw [mdL_num hm]
  dsimp only
  rw [numL2_num (by omega) h0 (by omega)]
  rfl
theorem kd_lim {kd : Str} (h : KwOk kd) : isLim kd = true := by
  rcases h with h | h | h <;> (subst h; decide +kernel)
theorem name_ne {x : Str} (h : Nm x) {y : String} (hy : (barS.any fun z => z == Str.ofString y) = true) : x ≠ Str.ofString y := fun z => by
  have := h.nb
  rw [z, hy] at this
  cases this
theorem factL_words {ps : List Str} (P : PsOk ps) (f : LF) (h : f.ok ps.length) : factL ps (f.words ps) = some f := by
  cases f with
  | by_ p m r =>
    obtain ⟨hp, hm, h0, h1⟩ := h
    unfold LF.words factL
    dsimp only
    rw [if_pos rfl]
    unfold byL
    rw [placeL_name P (getD_at hp)]
    dsimp only
    rw [remL_num hm h0 h1]
    rfl
  | gap p q m r =>
    obtain ⟨hp, hq, hpq, hm, h0, h1⟩ := h
    unfold LF.words factL
    dsimp only
    rw [if_pos rfl]
    unfold gapL
    rw [placeL_name P (getD_at hp), placeL_name P (getD_at hq)]
    dsimp only
    rw [if_neg hpq, if_pos rfl, remL_num hm h0 h1]
    rfl
  | apart p c a q e b =>
    obtain ⟨hp, hq, hpq, ⟨c1, c2⟩, ⟨e1, e2⟩, ⟨a1, a2⟩, b1, b2⟩ := h
    unfold LF.words factL
    dsimp only
    rw [if_pos rfl]
    unfold apartL
    rw [spotL_spot P (getD_at hp) c1 c2, spotL_spot P (getD_at hq) e1 e2]
    dsimp only
    rw [if_neg hpq, numL2_num (by omega) a1 a2, numL2_num (by omega) b1 b2]
  | lim kd p q n =>
    obtain ⟨hk, hp, hq, hpq, h0, h1⟩ := h
    have nx := nm_of (P.ok _ (List.mem_of_getElem? (getD_at hp)))
    unfold LF.words factL
    dsimp only
    rw [if_neg (name_ne nx (by decide +kernel)), if_pos rfl]
    unfold limL
    rw [placeL_name P (getD_at hp), placeL_name P (getD_at hq)]
    dsimp only
    rw [if_neg hpq, if_pos (kd_lim hk), numL2_num (by omega) h0 h1]
    rfl
/-! ### joined words, lines -/
theorem tl_joinT (y : Str) (l : List Str) : tl (Txt.join y l) = joinL (tl y) (l.map tl) := by
  have e : ∀ x : Str, SX.S (tl x) = x := fun x => str_ext (by show (tl x).toArray.toList = tl x; simp)
  have := SX.join_S (tl y) (l.map tl)
  rw [e, List.map_map] at this
  have e2 : (l.map (SX.S ∘ tl)) = l := by
    rw [show (SX.S ∘ tl) = id from funext e, List.map_id]
  rw [e2] at this
  rw [this]
theorem map_tl_inj : ∀ {a b : List Str}, a.map tl = b.map tl → a = b
  | [], [], _ => rfl
  | [], _ :: _, h => by cases h
  | _ :: _, [], h => by cases h
  | x :: a, y :: b, h => by
    rw [List.map_cons, List.map_cons] at h
    injection h with h1 h2
    rw [str_ext h1, map_tl_inj h2]
theorem split_joinT {s : Nat} {y : Str} (hy : tl y = [s]) (hs : s < 256) {l : List Str} (hl : l ≠ []) (h : ∀ x ∈ l, s ∉ tl x) : Txt.split (Txt.join y l) y = l := by
  refine map_tl_inj ?_
  rw [split_eq hy hs, tl_joinT, hy]
  exact spl_join (by simpa using hl) fun p hp => by
    obtain ⟨x, hx, rfl⟩ := List.mem_map.mp hp
    exact h x hx
/-- the signs of a fact's words: no space, no line's end -/
theorem num_signs (i : Int) : ∀ c ∈ tl (numS i), c = 45 ∨ (48 ≤ c ∧ c ≤ 57) := by
  intro c hc
  by_cases h0 : 0 ≤ i
  · rw [tl_num_nonneg h0] at hc
    exact .inr (numL_digits _ c hc)
  · rw [tl_num_neg (by omega)] at hc
    rcases List.mem_cons.mp hc with rfl | hc
    · exact .inl rfl
    · exact .inr (numL_digits _ c hc)
theorem spot_signs {x : Str} (h : Nm x) (n : Int) : ∀ c ∈ tl (spotS x n), 43 ≤ c ∧ c ≤ 122 := by
  intro c hc
  rw [tl_spot] at hc
  rcases List.mem_append.mp hc with hc | hc
  · have := h.lt c hc; omega
  · unfold sfx at hc
    split at hc
    · cases hc
    · split at hc
      · rcases List.mem_cons.mp hc with e | hc
        · omega
        · have := numL_digits _ c hc; omega
      · rcases List.mem_cons.mp hc with e | hc
        · omega
        · have := numL_digits _ c hc; omega
theorem lit_signs {s : String} (h : (tl (Str.ofString s)).all (fun c => decide (43 ≤ c ∧ c ≤ 122)) = true) : ∀ c ∈ tl (Str.ofString s), 43 ≤ c ∧ c ≤ 122 := fun c hc => of_decide_eq_true (List.all_eq_true.mp h c hc)
theorem words_signs {ps : List Str} (P : PsOk ps) (f : LF) (h : f.ok ps.length) : ∀ w ∈ f.words ps, (∀ c ∈ tl w, 43 ≤ c ∧ c ≤ 122) := by
  have nm : ∀ {p : Nat}, p < ps.length → ∀ c ∈ tl (ps.getD p ""), 43 ≤ c ∧ c ≤ 122 := fun hp c hc => by
    have := (nm_of (P.ok _ (List.mem_of_getElem? (getD_at hp)))).lt c hc
    omega
  have nu : ∀ (i : Int), ∀ c ∈ tl (numS i), 43 ≤ c ∧ c ≤ 122 := fun i c hc => by
    have := num_signs i c hc
    omega
  cases f with
  | by_ p m r =>
    obtain ⟨hp, hm, h0, h1⟩ := h
    intro w hw
    simp only [LF.words, List.mem_cons, List.not_mem_nil, or_false] at hw
    rcases hw with rfl | rfl | rfl | rfl
    · exact nm hp
    · exact lit_signs (by decide +kernel)
    · exact nu _
    · exact nu _
  | gap p q m r =>
    obtain ⟨hp, hq, hpq, hm, h0, h1⟩ := h
    intro w hw
    simp only [LF.words, List.mem_cons, List.not_mem_nil, or_false] at hw
    rcases hw with rfl | rfl | rfl | rfl | rfl | rfl
    · exact nm hp
    · exact lit_signs (by decide +kernel)
    · exact nm hq
    · exact lit_signs (by decide +kernel)
    · exact nu _
    · exact nu _
  | apart p c a q e b =>
    obtain ⟨hp, hq, hpq, ⟨c1, c2⟩, ⟨e1, e2⟩, ⟨a1, a2⟩, b1, b2⟩ := h
    intro w hw
    simp only [LF.words, List.mem_cons, List.not_mem_nil, or_false] at hw
    rcases hw with rfl | rfl | rfl | rfl | rfl
    · exact lit_signs (by decide +kernel)
    · exact spot_signs (nm_of (P.ok _ (List.mem_of_getElem? (getD_at hp)))) _
    · exact nu _
    · exact spot_signs (nm_of (P.ok _ (List.mem_of_getElem? (getD_at hq)))) _
    · exact nu _
  | lim kd p q n =>
    obtain ⟨hk, hp, hq, hpq, h0, h1⟩ := h
    intro w hw
    simp only [LF.words, List.mem_cons, List.not_mem_nil, or_false] at hw
    rcases hw with rfl | rfl | rfl | rfl | rfl
    · exact nm hp
    · exact lit_signs (by decide +kernel)
    · exact nm hq
    · rcases hk with rfl | rfl | rfl <;> exact lit_signs (by decide +kernel)
    · exact nu _
def LF.text (ps : List Str) (f : LF) : Str := Txt.join " " (f.words ps)
theorem words_ne (ps : List Str) (f : LF) : f.words ps ≠ [] := by cases f <;> simp [LF.words]
theorem split_text {ps : List Str} (P : PsOk ps) (f : LF) (h : f.ok ps.length) : Txt.split (f.text ps) " " = f.words ps :=
  split_joinT tl_space (by decide) (words_ne ps f) fun w hw z => by have := words_signs P f h w hw 32 z; omega
theorem text_inj {ps : List Str} (P : PsOk ps) {f g : LF} (hf : f.ok ps.length) (hg : g.ok ps.length) (h : f.text ps = g.text ps) : f = g := by
  have e := split_text P f hf
  rw [h, split_text P g hg] at e
  have := factL_words P g hg
  rw [e, factL_words P f hf] at this
  exact Option.some.inj this
theorem mem_joinL {s : Nat} : ∀ {l : List (List Nat)} {c : Nat}, c ∈ joinL [s] l → c = s ∨ ∃ p ∈ l, c ∈ p
  | [], c, h => by cases h
  | [p], c, h => .inr ⟨p, List.mem_cons_self, by simpa [joinL] using h⟩
  | p :: q :: l, c, h => by
    have h' : c ∈ p ++ ([s] ++ joinL [s] (q :: l)) := h
    rcases List.mem_append.mp h' with h | h
    · exact .inr ⟨p, List.mem_cons_self, h⟩
    · rcases List.mem_append.mp h with h | h
      · exact .inl (List.mem_singleton.mp h)
      · rcases mem_joinL h with h | ⟨r, hr, hc⟩
        · exact .inl h
        · exact .inr ⟨r, List.mem_cons_of_mem _ hr, hc⟩
theorem text_signs {ps : List Str} (P : PsOk ps) (f : LF) (h : f.ok ps.length) : ∀ c ∈ tl (f.text ps), c = 32 ∨ (43 ≤ c ∧ c ≤ 122) := by
  intro c hc
  unfold LF.text at hc
  rw [tl_joinT, tl_space] at hc
  rcases mem_joinL hc with h' | ⟨p, hp, hc⟩
  · exact .inl h'
  · obtain ⟨w, hw, rfl⟩ := List.mem_map.mp hp
    exact .inr (words_signs P f h w hw c hc)
theorem joinL_ne {s : Nat} : ∀ {l : List (List Nat)}, (∃ p ∈ l, p ≠ []) → joinL [s] l ≠ []
  | [], ⟨p, hp, _⟩, _ => by cases hp
  | [q], ⟨p, hp, h⟩, z => by rw [List.mem_singleton.mp hp] at h; exact h (by simpa [joinL] using z)
  | q :: r :: l, _, z => by
    have : q ++ ([s] ++ joinL [s] (r :: l)) = [] := z
    simp at this
theorem text_ne {ps : List Str} (P : PsOk ps) (f : LF) (h : f.ok ps.length) : tl (f.text ps) ≠ [] := by
  intro z
  have e := split_text P f h
  have : f.text ps = "" := str_ext (by rw [z]; decide +kernel)
  rw [this] at e
  have hs : Txt.split "" " " = [("" : Str)] := by
    refine map_tl_inj ?_
    rw [split_eq tl_space (by decide)]
    decide +kernel
  rw [hs] at e
  cases f <;> simp [LF.words] at e
def factsText (ps : List Str) (fs : List LF) : Str := Txt.join "\n" (fs.map fun f => f.text ps)
theorem lines_facts {ps : List Str} (P : PsOk ps) {fs : List LF} (h : ∀ f ∈ fs, f.ok ps.length) : linesL (factsText ps fs) = fs.map fun f => f.text ps := by
  unfold linesL factsText
  cases fs with
  | nil =>
    rw [List.map_nil, if_pos (show Txt.join "\n" ([] : List Str) = "" by decide +kernel)]
  | cons f fs =>
    rw [if_neg, split_joinT tl_nl (by decide) (by simp)]
    · intro x hx z
      obtain ⟨g, hg, rfl⟩ := List.mem_map.mp hx
      have := text_signs P g (h g hg) 10 z
      omega
    · intro z
      have : tl (Txt.join "\n" ((f :: fs).map fun f => f.text ps)) = [] := by rw [z]; decide +kernel
      rw [tl_joinT, tl_nl] at this
      refine joinL_ne ⟨tl (f.text ps), by simp, ?_⟩ this
      exact text_ne P f (h f List.mem_cons_self)
theorem rdL_facts {ps : List Str} (P : PsOk ps) : ∀ {fs : List LF} {i : Nat} {seen : List LF}, (∀ f ∈ fs, f.ok ps.length) → (∀ f ∈ seen, f.ok ps.length) → (seen ++ fs).Nodup → i + fs.length ≤ 12 → rdL ps i (seen.map fun f => f.text ps) (fs.map fun f => f.text ps) = .inr fs
  | [], _, _, _, _, _, _ => rfl
  | f :: fs, i, seen, h, hs, nd, hi => by
    rw [List.length_cons] at hi
    have hf := h f List.mem_cons_self
    rw [List.map_cons, rdL, split_text P f hf, factL_words P f hf]
    dsimp only
    rw [if_neg]
    · have ih := rdL_facts P (fs := fs) (i := i + 1) (seen := seen ++ [f]) (fun g hg => h g (List.mem_cons_of_mem _ hg)) (fun g hg => (List.mem_append.mp hg).elim (hs g) fun z => by rw [List.mem_singleton.mp z]; exact hf) (by simpa using nd) (by omega)
      rw [List.map_append] at ih
      rw [show (seen.map fun f => f.text ps) ++ [f.text ps] = (seen.map fun f => f.text ps) ++ [f].map (fun f => f.text ps) from rfl, ih]
    · rintro (z | z)
      · omega
      · obtain ⟨g, hg, e⟩ := List.mem_map.mp z
        have := text_inj P (hs g hg) hf e
        subst this
        exact (List.nodup_append.mp nd).2.2 g hg g List.mem_cons_self rfl
theorem text_wd {ps : List Str} (P : PsOk ps) (f : LF) (h : f.ok ps.length) (hl : (f.text ps).length ≤ 200) : Wd (f.text ps) := ⟨sOk_of fun c hc => by have := text_signs P f h c hc; omega, by rw [sizeLine_eq]; omega⟩

end Pc

set_option Elab.async false
set_option linter.all false
set_option maxRecDepth 100000
set_option maxHeartbeats 8000000
set_option autoImplicit false
namespace Pc
open PySem PySem.Spec PyProof.Rows L2 TL
local macro_rules | `(tactic| simp! only [$ls,*]) => `(tactic| simp -implicitDefEqProofs only [bind_ok, bnd_ok, bnd_exc, map_ok, toS_ok, tos_ok, tos_exc, seq_nx, seq_rt, sq_nx, sq_rt, sq_bk, sq_ct, sq_exc, runS_nx, runS_rt, runS_exc, noX_ok, d_val, d_own, al_val, al_f, alK_val, alK_f, alK_t, e_seq, e_next, e_bk, e_ct, e_ret, e_retN, e_ifS, e_set, e_drop, e_A, e_D, e_val, e_var0, e_varS, e_nil, e_cons, e_cmp, e_bin, e_blt, e_call, e_bl, blK_b, e_tru, trK_b, e_notT, e_andT, e_orT, e_and, andK_b, e_or, orK_b, e_not, notK_b, e_neg, negK_i, e_if, e_chain, chK_b, e_tup, e_lst, e_idx, e_attrX, e_slice, e_noP, e_partE, ptK2_i, e_star, starK_lst, starK_tup, e_meth, ma_join, ma_split, ma_append, ma_pop, ma_index, ma_extend, meK_str, meK_lst, sl_tup, sl_lst, e_lc, e_for, e_ianyO, e_ienu, e_irng1, e_irng2, e_izip, e_par, e_asg, e_sub, e_fld, e_lenO, e_dict, e_pn, e_pc, e_dnew, e_isi, e_make, e_raise, rsK_none, gcE_same, gcK_same, gcK_own0, o_dk, stK_s, eq_int, ne_int, eq_str, ne_str, sOk_lit, sOk_numS, lt_int, le_int, gt_int, ge_int, in_sign, is_non, isNot_non, is_tup, isNot_tup, is_int, isNot_int, lenO_tup, lenO_ctup, lenO_lst, lenO_scr, add_int, sub_int, int_int, abs_int, tuple_lst, tuple_tup, listO_lst, listO_tup, all_bls, o_lst, max_two, min_two, anyO_str, anyO_tup, anyO_ctup, anyO_lst, enu_tup, enu_lst, startE, w_ok, w_exc, ↓w_bnd, ↓w_bind, ↓ws_tos, ↓ws_sq, ↓ws_toS, ↓ws_seq, w_map, w_noX, w_run, w_al, w_ite, ws_nx, ws_rt, ws_bk, ws_ct, ws_exc, ws_ite, List.map_cons, List.map_nil, List.length_cons, List.length_nil, List.replicate, List.nil_append, List.cons_append, List.set_cons_zero, List.set_cons_succ, Nat.reduceAdd, Nat.reduceSub, if_true, if_false, Bool.false_eq_true, ite_true, ite_false, Bool.not_true, Bool.not_false, decide_true, decide_false, true_or, or_true, false_or, or_false, Nat.reduceEqDiff, Nat.reduceLT, Int.reduceLT, Int.reduceLE, or_self, sz0, sz1, sz2, sz3, sz4, sz5, sz6, sz7, sz8, sz9, ix_tup0, ix_tup1, ix_tup2, ix_tup3, ix_tup4, ix_tup5, ix_lst0, ix_lst1, ix_lst2, ix_lst3, ix_lst4, ix_lst5, ix_ctup0, ix_ctup1, ix_ctup2, ix_ctup3, ix_ctup4, ix_ctup5, $ls,*])
/-! K8: the law's own facts: as texts, far, modulus -/
def LF.law (ps : List Str) : LF → D
  | .by_ p m r => .tup [.str "by", .str (ps.getD p ""), .int m, .int r]
  | .gap p q m r => .tup [.str "gap", .str (ps.getD p ""), .str (ps.getD q ""), .int m, .int r]
  | .apart p c a q e b => .tup [.str "apart", .str (ps.getD p ""), .int c, .int a, .str (ps.getD q ""), .int e, .int b]
  | .lim kd p q n => .tup [.str kd, .str (ps.getD p ""), .str (ps.getD q ""), .int n]
theorem kw_lim {kd : Str} (h : KwOk kd) : isLim kd = true := by
  rcases h with h | h | h <;> (subst h; decide +kernel)
theorem LF.ok_good {n : Nat} {f : LF} (h : f.ok n) : f.good := by
  cases f with
  | lim kd p q n' => exact kw_lim h.1
  | _ => trivial
theorem kw_sok {kd : Str} (h : KwOk kd) : sOk kd := by rcases h with h | h | h <;> (subst h; exact sOk_lit _)
section
variable {M : Mem}
theorem log_small {i : Int} (h : -100000 < i ∧ i < 100000) : i.natAbs.log2 < 1920 := Nat.lt_trans (lg (k := 20) (by omega) (by decide)) (by decide)
theorem lim_tup (a : Str) : cmpS .In (.str a) (.tup [.str "from", .str "upto", .str "is"]) M = .ok (.val (.bl (isLim a))) M := in_tup a ["from", "upto", "is"] M
theorem spot_len {x : Str} (h : Nm x) {n : Int} (h1 : -30 ≤ n) (h2 : n ≤ 30) : (spotS x n).length ≤ 20 := by
  rw [len_tl, tl_spot, List.length_append]
  have hx := h.l2
  rw [len_tl] at hx
  have : (sfx n).length ≤ 3 := by
    unfold sfx
    split
    · simp
    · split
      · have := numL_len (n := n.toNat) (k := 2) (by decide) (by omega)
        simp; omega
      · have := numL_len (n := (-n).toNat) (k := 2) (by decide) (by omega)
        simp; omega
  omega
theorem num_len {i : Int} (h : -10000 < i ∧ i < 10000) : (numS i).length ≤ 5 := by
  rw [len_tl]
  by_cases h0 : 0 ≤ i
  · rw [tl_num_nonneg h0]
    have := numL_len (n := i.toNat) (k := 4) (by decide) (by omega)
    omega
  · rw [tl_num_neg (by omega)]
    have := numL_len (n := (-i).toNat) (k := 4) (by decide) (by omega)
    simp; omega
theorem tl_app (a b : Str) : tl (a ++ b) = tl a ++ tl b := by
  show (a.cps ++ b.cps).toList = _
  simp
theorem sp_spot_text (k : Nat) {x : Str} (hx : Nm x) {n : Int} (h1 : -30 ≤ n) (h2 : n ≤ 30) : (mkDy G T (k + 1)).call "_law_spot_text" [.str x, .int n] M = .ok (.val (.str (spotS x n))) M := by
  have so := str_int (M := M) (i := n) (log_small ⟨by omega, by omega⟩)
  have so : strS [.int n] M = .ok (.val (.str (numS n))) M := so
  have nl := num_len (i := n) ⟨by omega, by omega⟩
  have xl := hx.l2
  have lp : (Str.ofString "+").length = 1 := by decide +kernel
  have le : (Str.ofString "").length = 0 := by decide +kernel
  have tp : tl (Str.ofString "+") = [43] := by decide +kernel
  have te : tl (Str.ofString "") = [] := by decide +kernel
  have la : ∀ a b : Str, (a ++ b).length = a.length + b.length := fun a b => by rw [len_tl, len_tl, len_tl, tl_app, List.length_append]
  rw [c__law_spot_text]
  unfold m__law_spot_text
  by_cases hp : 0 < n
  · have e : x ++ (Str.ofString "+" ++ numS n) ++ Str.ofString "" = spotS x n := str_ext (by
      rw [tl_app, tl_app, tl_app, tp, te, tl_spot, tl_num_nonneg (by omega)]
      unfold sfx
      rw [if_neg (by omega), if_pos hp]
      simp)
    have a1 : binS .Add (.str "+") (.str (numS n)) M = .ok (.val (.str ("+" ++ numS n))) M := add_str (by rw [lp, sizeLine_eq]; omega)
    have a2 : binS .Add (.str x) (.str ("+" ++ numS n)) M = .ok (.val (.str (x ++ ("+" ++ numS n)))) M := add_str (by rw [la, lp, sizeLine_eq]; omega)
    have a3 : binS .Add (.str (x ++ ("+" ++ numS n))) (.str "") M = .ok (.val (.str (x ++ ("+" ++ numS n) ++ ""))) M := add_str (by rw [la, la, lp, le, sizeLine_eq]; omega)
    simp! only [decide_eq_true hp, decide_eq_false (show ¬ n < 0 by omega), so, a1, a2, a3, gc_same]
    rw [e]
  · by_cases hn : n < 0
    · have e : x ++ Str.ofString "" ++ numS n = spotS x n := str_ext (by
        rw [tl_app, tl_app, te, tl_spot, tl_num_neg hn]
        unfold sfx
        rw [if_neg (by omega), if_neg hp]
        simp)
      have a1 : binS .Add (.str x) (.str "") M = .ok (.val (.str (x ++ ""))) M := add_str (by rw [le, sizeLine_eq]; omega)
      have a2 : binS .Add (.str (x ++ "")) (.str (numS n)) M = .ok (.val (.str (x ++ "" ++ numS n))) M := add_str (by rw [la, le, sizeLine_eq]; omega)
      simp! only [decide_eq_false hp, decide_eq_true hn, so, a1, a2, gc_same]
      rw [e]
    · have e : x ++ Str.ofString "" ++ Str.ofString "" = spotS x n := str_ext (by
        rw [tl_app, tl_app, te, tl_spot]
        unfold sfx
        rw [if_pos (by omega)]
        simp)
      have a1 : binS .Add (.str x) (.str "") M = .ok (.val (.str (x ++ ""))) M := add_str (by rw [le, sizeLine_eq]; omega)
      have a2 : binS .Add (.str (x ++ "")) (.str "") M = .ok (.val (.str (x ++ "" ++ ""))) M := add_str (by rw [la, le, sizeLine_eq]; omega)
      simp! only [decide_eq_false hp, decide_eq_false hn, a1, a2, gc_same]
      rw [e]
theorem join_words {ws : List Str} (h : ∀ w ∈ ws, w.length ≤ 20) (hl : ws.length ≤ 10) : joinS (.str " ") [.lst (ws.map D.str)] M = .ok (.val (.str (Txt.join " " ws))) M := by
  have l1 : (Str.ofString " ").length = 1 := by decide +kernel
  have : ∀ l : List Str, (∀ w ∈ l, w.length ≤ 20) → (l.map fun y : Str => y.length).sum ≤ 20 * l.length := by
    intro l
    induction l with
    | nil => intro _; simp
    | cons a l ih =>
      intro h
      have := ih fun w hw => h w (List.mem_cons_of_mem _ hw)
      have := h a List.mem_cons_self
      simp only [List.map_cons, List.sum_cons, List.length_cons]
      omega
  refine join_lst ?_
  have := this ws h
  rw [l1]
  omega
theorem words_len {ps : List Str} (P : PsOk ps) (f : LF) (h : f.ok ps.length) : (∀ w ∈ f.words ps, w.length ≤ 20) ∧ (f.words ps).length ≤ 6 := by
  have nm : ∀ {p : Nat}, p < ps.length → (ps.getD p "").length ≤ 20 := fun hp => by
    have := (nm_of (P.ok _ (List.mem_of_getElem? (getD_at hp)))).l2
    omega
  have nu : ∀ {i : Int}, -10000 < i ∧ i < 10000 → (numS i).length ≤ 20 := fun h => by have := num_len h; omega
  have li : ∀ s : String, (Str.ofString s).length ≤ 20 ↔ (Str.ofString s).length ≤ 20 := fun _ => Iff.rfl
  cases f with
  | by_ p m r =>
    obtain ⟨hp, hm, h0, h1⟩ := h
    have : m ≤ 8 := by rcases hm with h | h | h <;> omega
    refine ⟨fun w hw => ?_, by simp [LF.words]⟩
    simp only [LF.words, List.mem_cons, List.not_mem_nil, or_false] at hw
    rcases hw with rfl | rfl | rfl | rfl
    · exact nm hp
    · decide +kernel
    · exact nu (by omega)
    · exact nu (by omega)
  | gap p q m r =>
    obtain ⟨hp, hq, hpq, hm, h0, h1⟩ := h
    have : m ≤ 8 := by rcases hm with h | h | h <;> omega
    refine ⟨fun w hw => ?_, by simp [LF.words]⟩
    simp only [LF.words, List.mem_cons, List.not_mem_nil, or_false] at hw
    rcases hw with rfl | rfl | rfl | rfl | rfl | rfl
    · exact nm hp
    · decide +kernel
    · exact nm hq
    · decide +kernel
    · exact nu (by omega)
    · exact nu (by omega)
  | apart p c a q e b =>
    obtain ⟨hp, hq, hpq, ⟨c1, c2⟩, ⟨e1, e2⟩, ⟨a1, a2⟩, b1, b2⟩ := h
    refine ⟨fun w hw => ?_, by simp [LF.words]⟩
    simp only [LF.words, List.mem_cons, List.not_mem_nil, or_false] at hw
    rcases hw with rfl | rfl | rfl | rfl | rfl
    · decide +kernel
    · exact spot_len (nm_of (P.ok _ (List.mem_of_getElem? (getD_at hp)))) c1 c2
    · exact nu (by omega)
    · exact spot_len (nm_of (P.ok _ (List.mem_of_getElem? (getD_at hq)))) e1 e2
    · exact nu (by omega)
  | lim kd p q n =>
    obtain ⟨hk, hp, hq, hpq, h0, h1⟩ := h
    refine ⟨fun w hw => ?_, by simp [LF.words]⟩
    simp only [LF.words, List.mem_cons, List.not_mem_nil, or_false] at hw
    rcases hw with rfl | rfl | rfl | rfl | rfl
    · exact nm hp
    · decide +kernel
    · exact nm hq
    · rcases hk with rfl | rfl | rfl <;> decide +kernel
    · exact nu (by omega)
theorem joinL_len {s : Nat} : ∀ (l : List (List Nat)) (n : Nat), (∀ p ∈ l, p.length ≤ n) → (joinL [s] l).length ≤ (n + 1) * l.length
  | [], n, _ => by simp [joinL]
  | [p], n, h => by
    have := h p List.mem_cons_self
    simp [joinL]
    omega
  | p :: q :: l, n, h => by
    have ih := joinL_len (s := s) (q :: l) n fun r hr => h r (List.mem_cons_of_mem _ hr)
    have := h p List.mem_cons_self
    show (p ++ ([s] ++ joinL [s] (q :: l))).length ≤ _
    rw [List.length_append, List.length_append, List.length_singleton, List.length_cons, Nat.mul_add]
    omega
theorem text_len {ps : List Str} (P : PsOk ps) (f : LF) (h : f.ok ps.length) : (f.text ps).length ≤ 126 := by
  obtain ⟨h1, h2⟩ := words_len P f h
  unfold LF.text
  rw [len_tl, tl_joinT, tl_space]
  have := joinL_len (s := 32) ((f.words ps).map tl) 20 fun p hp => by
    obtain ⟨w, hw, rfl⟩ := List.mem_map.mp hp
    rw [← len_tl]
    exact h1 w hw
  rw [List.length_map] at this
  omega
theorem text_ok {ps : List Str} (P : PsOk ps) (f : LF) (h : f.ok ps.length) : Wd (f.text ps) := text_wd P f h (by have := text_len P f h; omega)
theorem sp_fact_text (k : Nat) {ps : List Str} (P : PsOk ps) (f : LF) (h : f.ok ps.length) : (mkDy G T (k + 2)).call "_law_fact_text" [f.law ps] M = .ok (.val (.str (f.text ps))) M := by
  have so : ∀ {n : Int}, (-100000 < n ∧ n < 100000) → strS [.int n] M = .ok (.val (.str (numS n))) M := fun h => str_int (log_small h)
  obtain ⟨wl, w6⟩ := words_len P f h
  have jw := join_words (M := M) wl (by omega)
  have t1 : isLim "by" = false := by decide +kernel
  have t2 : isLim "gap" = false := by decide +kernel
  have t3 : isLim "apart" = false := by decide +kernel
  have d1 : decide (Str.ofString "by" = Str.ofString "apart") = false := by decide +kernel
  have d2 : decide (Str.ofString "gap" = Str.ofString "apart") = false := by decide +kernel
  have d3 : decide (Str.ofString "gap" = Str.ofString "by") = false := by decide +kernel
  have pt : ∀ (e : Sl) (a b : Nat) (x y : D), putE e [(a, x), (b, y)] = (e.set a (some x)).set b (some y) := fun _ _ _ _ _ => rfl
  have i6 : ∀ {a b c d e f g : D} {M : Mem}, idxS (.tup [a, b, c, d, e, f, g]) (.int 6) M = .ok (.val g) M := fun {a b c d e f g M} => rfl
  rw [c__law_fact_text]
  unfold m__law_fact_text LF.text
  cases f with
  | by_ p m r =>
    obtain ⟨hp, hm, h0, h1⟩ := h
    have : m ≤ 8 := by rcases hm with h | h | h <;> omega
    simp only [LF.words, List.map_cons, List.map_nil] at jw
    simp! only [LF.law, LF.words, lim_tup, t1, str_beq, d1, so (n := m) (by omega), so (n := r) (by omega), jw, gc_same]
  | gap p q m r =>
    obtain ⟨hp, hq, hpq, hm, h0, h1⟩ := h
    have : m ≤ 8 := by rcases hm with h | h | h <;> omega
    simp only [LF.words, List.map_cons, List.map_nil] at jw
    simp! only [LF.law, LF.words, lim_tup, t2, str_beq, d2, d3, so (n := m) (by omega), so (n := r) (by omega), jw, gc_same]
  | apart p c a q e b =>
    obtain ⟨hp, hq, hpq, ⟨c1, c2⟩, ⟨e1, e2⟩, ⟨a1, a2⟩, b1, b2⟩ := h
    have s1 := sp_spot_text (M := M) k (nm_of (P.ok _ (List.mem_of_getElem? (getD_at hp)))) c1 c2
    have s2 := sp_spot_text (M := M) k (nm_of (P.ok _ (List.mem_of_getElem? (getD_at hq)))) e1 e2
    simp only [LF.words, List.map_cons, List.map_nil] at jw
    simp! only [LF.law, LF.words, lim_tup, t3, str_beq, s1, s2, List.zip_cons_cons, List.zip_nil_right, pt, i6, so (n := a) (by omega), so (n := b) (by omega), jw, gc_same]
  | lim kd p q n =>
    obtain ⟨hk, hp, hq, hpq, h0, h1⟩ := h
    simp only [LF.words, List.map_cons, List.map_nil] at jw
    simp! only [LF.law, LF.words, lim_tup, kw_lim hk, so (n := n) (by omega), jw, gc_same]
theorem sum_le (l : List Str) (n : Nat) (h : ∀ x ∈ l, x.length ≤ n) : (l.map fun y : Str => y.length).sum ≤ n * l.length := by
  induction l with
  | nil => simp
  | cons a l ih =>
    have := ih fun w hw => h w (List.mem_cons_of_mem _ hw)
    have := h a List.mem_cons_self
    simp only [List.map_cons, List.sum_cons, List.length_cons, Nat.mul_add]
    omega
theorem sp_facts_text (k : Nat) {ps : List Str} (P : PsOk ps) {fs : List LF} (h : ∀ f ∈ fs, f.ok ps.length) (hl : fs.length ≤ 100) : (mkDy G T (k + 3)).call "_law_facts_text" [.lst (fs.map (LF.law ps))] M = .ok (.val (.str (factsText ps fs))) M := by
  have lc : l1__law_facts_text (mkDy G T (k + 2)) [some (.lst (fs.map (LF.law ps))), none] M = .ok (.own (.lst ((fs.map fun f => f.text ps).map D.str))) M := by
    unfold l1__law_facts_text
    simp! only [List.length_map]
    rw [lc_map (M := M) (g := gSeq (.lst (fs.map (LF.law ps)))) (tg := gN 1) (vs := [1]) (i := 1) fs (LF.law ps) (fun f => D.str (f.text ps)) rfl rfl (g_lst _) (by rw [sizeLine_eq]; omega) (fun y hy => by
      show (mA false (mCall 1 ((mkDy G T (k + 2)).call "_law_fact_text") (mConsA false (mVar 1) mNil))) [some (.lst (fs.map (LF.law ps))), some (y.law ps)] M = _
      simp! only [sp_fact_text k P y (h y hy)])]
    rw [List.map_map]
    rfl
  have jl : joinS (.str "\n") [.lst ((fs.map fun f => f.text ps).map D.str)] M = .ok (.val (.str (factsText ps fs))) M := join_lst (by
    have l1 : (Str.ofString "\n").length = 1 := by decide +kernel
    have := sum_le (fs.map fun f => f.text ps) 126 fun x hx => by
      obtain ⟨f, hf, rfl⟩ := List.mem_map.mp hx
      exact text_len P f (h f hf)
    rw [l1]
    rw [List.length_map] at this ⊢
    omega)
  rw [c__law_facts_text]
  unfold m__law_facts_text
  simp! only [lc, jl, gc_same]
theorem sp_law_far (k : Nat) {ps : List Str} (f : LF) (h : f.ok ps.length) : (mkDy G T (k + 1)).call "_law_far_of" [f.law ps] M = .ok (.val (.int f.far)) M := by
  have t1 : isLim "by" = false := by decide +kernel
  have t2 : isLim "gap" = false := by decide +kernel
  have d1 : decide (Str.ofString "by" = Str.ofString "apart") = false := by decide +kernel
  have d2 : decide (Str.ofString "gap" = Str.ofString "apart") = false := by decide +kernel
  have i6 : ∀ {a b c d e f g : D} {M : Mem}, idxS (.tup [a, b, c, d, e, f, g]) (.int 6) M = .ok (.val g) M := fun {a b c d e f g M} => rfl
  rw [c__law_far_of]
  unfold m__law_far_of
  cases f with
  | by_ p m r => simp! only [LF.law, LF.far, str_beq, d1, lim_tup, t1, gc_same]
  | gap p q m r => simp! only [LF.law, LF.far, str_beq, d2, lim_tup, t2, gc_same]
  | apart p c a q e b =>
    simp! only [LF.law, LF.far, str_beq, i6, gc_same]
    congr 3
    unfold absI
    omega
  | lim kd p q n =>
    have hk := h.1
    have d3 : decide (kd = Str.ofString "apart") = false := by rcases hk with z | z | z <;> (rw [z]; decide +kernel)
    simp! only [LF.law, LF.far, kw_sok hk, str_beq, d3, lim_tup, kw_lim hk, absI, gc_same]
theorem maxF_step (a b : Int) (l : List Int) : maxF a (b :: l) = maxF (max a b) l := rfl
theorem by_gap (a : Str) : cmpS .In (.str a) (.tup [.str "by", .str "gap"]) M = .ok (.val (.bl ((["by", "gap"] : List Str).any fun y => y == a))) M := in_tup a ["by", "gap"] M
theorem maxF_take {l : List Int} {j : Nat} {a : Int} (h : j < l.length) : maxF a (l.take (j + 1)) = max (maxF a (l.take j)) l[j] := by
  have key : ∀ (l : List Int) (a b : Int), maxF a (l ++ [b]) = max (maxF a l) b := by
    intro l
    induction l with
    | nil => intro a b; rfl
    | cons c l ih => intro a b; exact ih (max a c) b
  rw [List.take_add_one, List.getElem?_eq_getElem h]
  exact key _ _ _
theorem maxF_ge1 (l : List Int) : ∀ a : Int, a ≤ maxF a l := by
  induction l with
  | nil => intro a; exact Int.le_refl _
  | cons b l ih => intro a; exact Int.le_trans (Int.le_max_left a b) (ih (max a b))
theorem ite_max (i j : Int) : (if j > i then j else i) = max i j := by
  rw [Int.max_def]
  split <;> split <;> omega
theorem sp_law_modulus (k : Nat) {ps : List Str} {fs : List LF} (h : ∀ f ∈ fs, f.ok ps.length) : (mkDy G T (k + 1)).call "_law_modulus" [.lst (fs.map (LF.law ps))] M = .ok (.val (.int (maxF 1 (fs.map LF.md)))) M := by
  have b1 : ((["by", "gap"] : List Str).any fun y => y == "by") = true := by decide +kernel
  have b2 : ((["by", "gap"] : List Str).any fun y => y == "gap") = true := by decide +kernel
  have b3 : ((["by", "gap"] : List Str).any fun y => y == "apart") = false := by decide +kernel
  have d3 : decide (Str.ofString "gap" = Str.ofString "by") = false := by decide +kernel
  refine wp_eq ?_
  rw [c__law_modulus, w_gcN]
  unfold m__law_modulus b1__law_modulus t1__law_modulus
  simp! only []
  refine ws_forL (N := fs.length) (I := fun j e M' => j ≤ fs.length ∧ M' = M ∧ ∃ x2 : Option D, e = [some (.lst (fs.map (LF.law ps))), some (.int (maxF 1 ((fs.map LF.md).take j))), x2]) (fun j e M' hj ⟨_, hM, x2, he⟩ => ?_) (fun e M' ⟨_, hM, x2, he⟩ => ?_) (fs.map (LF.law ps)).length 0 _ M (by rw [List.length_map]; rfl) ⟨Nat.zero_le _, rfl, none, rfl⟩
  · subst hM he
    have hj2 : j < (fs.map (LF.law ps)).length := by rw [List.length_map]; exact hj
    refine ⟨fs[j].law ps, [(2, fs[j].law ps)], by rw [g_lst, List.getElem?_eq_getElem hj2, List.getElem_map], rfl, ?_⟩
    have mt := maxF_take (l := fs.map LF.md) (j := j) (a := 1) (by rw [List.length_map]; exact hj)
    rw [List.getElem_map] at mt
    have g1 := maxF_ge1 ((fs.map LF.md).take j) 1
    have hf := h fs[j] (List.getElem_mem hj)
    generalize fs[j] = f at mt hf
    have pt : ∀ (e : Sl) (a : Nat) (x : D), putE e [(a, x)] = e.set a (some x) := fun _ _ _ => rfl
    cases f with
    | by_ p m r =>
      simp! only [pt, LF.law, by_gap, b1, str_beq, ite_max]
      exact ⟨hj, by trivial, _, by rw [mt]; rfl⟩
    | gap p q m r =>
      simp! only [pt, LF.law, by_gap, b2, str_beq, d3, ite_max]
      exact ⟨hj, by trivial, _, by rw [mt]; rfl⟩
    | apart p c a q e b =>
      have : maxF 1 ((fs.map LF.md).take (j + 1)) = maxF 1 ((fs.map LF.md).take j) := by rw [mt]; exact Int.max_eq_left g1
      simp! only [pt, LF.law, by_gap, b3]
      exact ⟨hj, by trivial, _, by rw [this]⟩
    | lim kd p q n =>
      have b4 : ((["by", "gap"] : List Str).any fun y => y == kd) = false := by rcases hf.1 with z | z | z <;> (rw [z]; decide +kernel)
      have : maxF 1 ((fs.map LF.md).take (j + 1)) = maxF 1 ((fs.map LF.md).take j) := by rw [mt]; exact Int.max_eq_left g1
      simp! only [pt, LF.law, by_gap, b4]
      exact ⟨hj, by trivial, _, by rw [this]⟩
  · subst hM he
    refine ⟨by rw [g_lst, List.getElem?_eq_none (by rw [List.length_map]; exact Nat.le_refl _)], ?_⟩
    rw [List.take_of_length_le (by rw [List.length_map]; exact Nat.le_refl _)]
    simp! only []
    exact ⟨by trivial, by trivial⟩
end

end Pc

set_option Elab.async false
set_option linter.all false
set_option maxRecDepth 100000
set_option maxHeartbeats 8000000
set_option autoImplicit false
namespace Pc
open PySem PySem.Spec PyProof.Rows L2 TL
local macro_rules | `(tactic| simp! only [$ls,*]) => `(tactic| simp -implicitDefEqProofs only [bind_ok, bnd_ok, bnd_exc, map_ok, toS_ok, tos_ok, tos_exc, seq_nx, seq_rt, sq_nx, sq_rt, sq_bk, sq_ct, sq_exc, runS_nx, runS_rt, runS_exc, noX_ok, d_val, d_own, al_val, al_f, alK_val, alK_f, alK_t, e_seq, e_next, e_bk, e_ct, e_ret, e_retN, e_ifS, e_set, e_drop, e_A, e_D, e_val, e_var0, e_varS, e_nil, e_cons, e_cmp, e_bin, e_blt, e_call, e_bl, blK_b, e_tru, trK_b, e_notT, e_andT, e_orT, e_and, andK_b, e_or, orK_b, e_not, notK_b, e_neg, negK_i, e_if, e_chain, chK_b, e_tup, e_lst, e_idx, e_attrX, e_slice, e_noP, e_partE, ptK2_i, e_star, starK_lst, starK_tup, e_meth, ma_join, ma_split, ma_append, ma_pop, ma_index, ma_extend, meK_str, meK_lst, sl_tup, sl_lst, e_lc, e_for, e_ianyO, e_ienu, e_irng1, e_irng2, e_izip, e_par, e_asg, e_sub, e_fld, e_lenO, e_dict, e_pn, e_pc, e_dnew, e_isi, e_make, e_raise, rsK_none, gcE_same, gcK_same, gcK_own0, o_dk, stK_s, eq_int, ne_int, eq_str, ne_str, sOk_lit, sOk_numS, lt_int, le_int, gt_int, ge_int, in_sign, is_non, isNot_non, is_tup, isNot_tup, is_int, isNot_int, lenO_tup, lenO_ctup, lenO_lst, lenO_scr, add_int, sub_int, int_int, abs_int, tuple_lst, tuple_tup, listO_lst, listO_tup, all_bls, o_lst, max_two, min_two, anyO_str, anyO_tup, anyO_ctup, anyO_lst, enu_tup, enu_lst, startE, w_ok, w_exc, ↓w_bnd, ↓w_bind, ↓ws_tos, ↓ws_sq, ↓ws_toS, ↓ws_seq, w_map, w_noX, w_run, w_al, w_ite, ws_nx, ws_rt, ws_bk, ws_ct, ws_exc, ws_ite, List.map_cons, List.map_nil, List.length_cons, List.length_nil, List.replicate, List.nil_append, List.cons_append, List.set_cons_zero, List.set_cons_succ, Nat.reduceAdd, Nat.reduceSub, if_true, if_false, Bool.false_eq_true, ite_true, ite_false, Bool.not_true, Bool.not_false, decide_true, decide_false, true_or, or_true, false_or, or_false, Nat.reduceEqDiff, Nat.reduceLT, Int.reduceLT, Int.reduceLE, or_self, sz0, sz1, sz2, sz3, sz4, sz5, sz6, sz7, sz8, sz9, ix_tup0, ix_tup1, ix_tup2, ix_tup3, ix_tup4, ix_tup5, ix_lst0, ix_lst1, ix_lst2, ix_lst3, ix_lst4, ix_lst5, ix_ctup0, ix_ctup1, ix_ctup2, ix_ctup3, ix_ctup4, ix_ctup5, $ls,*])
/-! K9: drawn facts -/
section
variable {M R : Mem} {ns : List Int} {t l : Int} {Q : RV → Mem → Prop} {X : XP}
theorem eq_nil {xs : List D} (h : shL 63 xs = true) : cmpS .Eq (.lst xs) (.lst []) M = .ok (.val (.bl xs.isEmpty)) M := by
  obtain ⟨q, h1, h2, h3⟩ := shL_py 63 xs h
  have e : eqO (.lst xs) (.lst []) M = some xs.isEmpty := by
    unfold eqO
    rw [show (D.lst xs).py M = some (.list q) from by show (D.lst xs).py0 = _; rw [D.py0, h1], show (D.lst []).py M = some (.list []) from rfl]
    dsimp only
    rw [if_pos ⟨shaped_of (n := 64) (by simpa [PyData.canLay0] using h2) (by simp [PyData.depth]; omega) (Nat.le_refl _), by decide +kernel⟩]
    cases xs with
    | nil => cases h1; simp [PyData.eqv, PyData.eqvAll]
    | cons x xs =>
      rw [pyL] at h1
      cases hx : x.py0 with
      | none => rw [hx] at h1; cases h1
      | some p =>
        cases hp : pyL xs with
        | none => rw [hx, hp] at h1; cases h1
        | some l => rw [hx, hp] at h1; cases h1; simp [PyData.eqv, PyData.eqvAll]
  show rB (eqO (.lst xs) (.lst []) M) M = _
  rw [e]
  rfl
theorem mem_at {ps : List Str} {x : Str} (h : x ∈ ps) : ∃ p, p < ps.length ∧ ps.getD p "" = x ∧ ps[p]? = some x := by
  obtain ⟨p, hp, e⟩ := List.mem_iff_getElem.mp h
  exact ⟨p, hp, by rw [List.getD_eq_getElem?_getD, List.getElem?_eq_getElem hp, e]; rfl, by rw [List.getElem?_eq_getElem hp, e]⟩
theorem as3 {e : Sl} {a b c : Nat} {x y z : D} : asK (gT 3 (gsCons (gN a) (gsCons (gN b) (gsCons (gN c) gsNil)))) e (.tup [x, y, z]) M = .nx (((e.set a (some x)).set b (some y)).set c (some z)) M := rfl
theorem w_wide_fact (k : Nat) {ps : List Str} (P : PsOk ps) (hne : ps ≠ []) (ht : 0 ≤ t ∧ t < 2 ^ 39) (h : ∀ (f : LF) (t' l' : Int), f.ok ps.length → 0 ≤ t' ∧ t' ≤ t + 20 → Q (.val (f.law ps)) (pen ns t' l' :: R)) : Wp ((mkDy G T (k + 3)).call "_law_wide_fact" [.ref 0, .lst (ps.map D.str)] (pen ns t l :: R)) Q NoE := by
  have few := P.few
  have hlen : 0 < ps.length := List.length_pos_iff.mpr hne
  rw [c__law_wide_fact, w_gcN]
  unfold m__law_wide_fact
  simp! only []
  refine w_draw (k + 1) (by decide) (by omega) fun way t1 l1 hway ht1 => ?_
  simp! only []
  refine w_pick k (by rw [List.length_map]; omega) (by omega) fun xo t2 l2 hxo ht2 => ?_
  obtain ⟨one, hone, rfl⟩ := List.mem_map.mp hxo
  obtain ⟨p, hp, hpx, hp?⟩ := mem_at hone
  simp! only []
  refine w_pick k (by simp) (by omega) fun xm t3 l3 hxm ht3 => ?_
  obtain ⟨m, hm, rfl⟩ : ∃ m : Int, MdOk m ∧ xm = .int m := by
    simp only [List.mem_cons, List.not_mem_nil, or_false] at hxm
    rcases hxm with rfl | rfl | rfl
    · exact ⟨2, .inl rfl, rfl⟩
    · exact ⟨4, .inr (.inl rfl), rfl⟩
    · exact ⟨8, .inr (.inr rfl), rfl⟩
  have mb : 2 ≤ m ∧ m ≤ 8 := by rcases hm with h | h | h <;> omega
  have so := (P.wd one hone).ok
  have lc : ∀ {a2 a4 a5 a7 a8 a9 a10 a11 : Option D} {M : Mem}, l1__law_wide_fact (mkDy G T (k + 2)) [some (.ref 0), some (.lst (ps.map D.str)), a2, some (.str one), a4, a5, none, a7, a8, a9, a10, a11] M = .ok (.own (.lst ((ps.filter fun y => !(y == one)).map D.str))) M := fun {a2 a4 a5 a7 a8 a9 a10 a11 M} => by
    unfold l1__law_wide_fact
    simp! only [List.length_map]
    rw [lc_typed (M := M) (g := gSeq (.lst (ps.map D.str))) (tg := gN 6) (vs := [6]) (i := 6) ps D.str D.str (fun y => !(y == one)) rfl rfl (g_lst _) (by rw [sizeLine_eq]; omega) (fun y hy => ⟨by
      show (mBl (mCmp .NotEq (mVar 6) (mVar 3))) [some (.ref 0), some (.lst (ps.map D.str)), a2, some (.str one), a4, a5, some (.str y), a7, a8, a9, a10, a11] M = _
      simp! only [(P.wd y hy).ok, so], fun _ => rfl⟩)]
    rfl
  have hoth : ∀ y ∈ ps.filter (fun y => !(y == one)), y ∈ ps ∧ y ≠ one := fun y hy => by
    have := List.mem_filter.mp hy
    exact ⟨this.1, by simpa using this.2⟩
  have sh : shL 63 ((ps.filter fun y => !(y == one)).map D.str) = true := shL_mem _ fun y hy => by unfold shD; exact (P.wd y (hoth y hy).1).ok
  simp! only [as3, lc, eq_nil sh]
  generalize hoe : ps.filter (fun y => !(y == one)) = oth at hoth sh ⊢
  have gk : ∀ {d : D} {t l : Int}, gcK (pen ns t l :: R).length (.val d) (pen ns t l :: R) = .ok (.val d) (pen ns t l :: R) := fun {d t l} => gcK_same
  have gk' : ∀ {d : D} {t2 l2 : Int}, gcK (R.length + 1) (.val d) (pen ns t2 l2 :: R) = .ok (.val d) (pen ns t2 l2 :: R) := fun {d t2 l2} => gcK_same (M := pen ns t2 l2 :: R)
  have fin : ∀ {d : D} {t' l' : Int}, Q (.val d) (pen ns t' l' :: R) → Wp (gcK (R.length + 1) (.val d) (pen ns t' l' :: R)) Q NoE := fun {d t' l'} q => by rw [gk']; exact q
  have by_ : ∀ (tt ll : Int), 0 ≤ tt ∧ tt ≤ t + 3 → ∀ (r t' l' : Int), 0 ≤ r ∧ r < m → 0 ≤ t' ∧ t' ≤ tt + 1 → Q (.val (.tup [.str "by", .str one, .int m, .int r])) (pen ns t' l' :: R) := fun tt ll htt r t' l' hr ht' => by
    have := h (.by_ p m r) t' l' ⟨hp, hm, hr.1, hr.2⟩ (by omega)
    rw [show (LF.by_ p m r).law ps = .tup [.str "by", .str one, .int m, .int r] from by show D.tup [_, .str (ps.getD p ""), _, _] = _; rw [hpx]] at this
    exact this
  cases hoe2 : (oth.map D.str).isEmpty with
  | true =>
    simp! only []
    refine w_draw (k + 1) (by omega) (by omega) fun r t4 l4 hr ht4 => ?_
    simp! only []
    exact fin (by_ t3 l3 (by omega) r t4 l4 hr ht4)
  | false =>
    have hol : oth ≠ [] := fun z => by rw [z] at hoe2; cases hoe2
    by_cases h0 : way = 0
    · have e0 : (way == 0) = true := by simpa using h0
      simp! only [e0]
      refine w_draw (k + 1) (by omega) (by omega) fun r t4 l4 hr ht4 => ?_
      simp! only []
      exact fin (by_ t3 l3 (by omega) r t4 l4 hr ht4)
    · have e0 : (way == 0) = false := by simpa using h0
      have ol : oth.length ≤ 3 := by rw [← hoe]; exact Nat.le_trans (List.length_filter_le _ _) few
      simp! only [e0]
      refine w_pick k (by rw [List.length_map]; have := List.length_pos_iff.mpr hol; omega) (by omega) fun xt t4 l4 hxt ht4 => ?_
      obtain ⟨two, htwo, rfl⟩ := List.mem_map.mp hxt
      obtain ⟨htp, hne2⟩ := hoth two htwo
      obtain ⟨q, hq, hqx, hq?⟩ := mem_at htp
      have hpq : p ≠ q := fun z => hne2 (by rw [← hpx, ← hqx, z])
      by_cases h1 : way = 1
      · have e1 : (way == 1) = true := by simpa using h1
        simp! only [e1]
        refine w_draw (k + 1) (by omega) (by omega) fun r t5 l5 hr ht5 => ?_
        simp! only []
        refine fin ?_
        have := h (.gap p q m r) t5 l5 ⟨hp, hq, hpq, hm, hr.1, hr.2⟩ (by omega)
        rw [show (LF.gap p q m r).law ps = .tup [.str "gap", .str one, .str two, .int m, .int r] from by show D.tup [_, .str (ps.getD p ""), .str (ps.getD q ""), _, _] = _; rw [hpx, hqx]] at this
        exact this
      · have e1 : (way == 1) = false := by simpa using h1
        by_cases h5 : way < 5
        · simp! only [e1, decide_eq_true h5]
          refine w_draw (k + 1) (by decide) (by omega) fun r1 t5 l5 hr1 ht5 => ?_
          simp! only []
          refine w_draw (k + 1) (by decide) (by omega) fun r2 t6 l6 hr2 ht6 => ?_
          simp! only []
          refine w_draw (k + 1) (by decide) (by omega) fun r3 t7 l7 hr3 ht7 => ?_
          simp! only [List.zip_cons_cons, List.zip_nil_right, show ∀ (e : Sl) (a b c : Nat) (x y z : D), putE e [(a, x), (b, y), (c, z)] = ((e.set a (some x)).set b (some y)).set c (some z) from fun _ _ _ _ _ _ _ => rfl]
          refine w_draw (k + 1) (by decide) (by omega) fun r4 t8 l8 hr4 ht8 => ?_
          simp! only []
          refine fin ?_
          have := h (.apart p (r1 - 30) (1 + r2) q (r3 - 30) (1 + r4)) t8 l8 ⟨hp, hq, hpq, by omega, by omega, by omega, by omega, by omega⟩ (by omega)
          rw [show (LF.apart p (r1 - 30) (1 + r2) q (r3 - 30) (1 + r4)).law ps = .tup [.str "apart", .str one, .int (r1 - 30), .int (1 + r2), .str two, .int (r3 - 30), .int (1 + r4)] from by show D.tup [_, .str (ps.getD p ""), _, _, .str (ps.getD q ""), _, _] = _; rw [hpx, hqx]] at this
          exact this
        · simp! only [e1, decide_eq_false h5]
          refine w_draw (k + 1) (by decide) (by omega) fun r1 t5 l5 hr1 ht5 => ?_
          simp! only []
          refine w_draw (k + 1) (by decide) (by omega) fun r2 t6 l6 hr2 ht6 => ?_
          simp! only []
          refine w_pick k (by simp) (by omega) fun xn t7 l7 hxn ht7 => ?_
          obtain ⟨n, hn, rfl⟩ : ∃ n : Int, (-40 ≤ n ∧ n ≤ 40) ∧ xn = .int n := by
            simp only [List.mem_cons, List.not_mem_nil, or_false] at hxn
            rcases hxn with rfl | rfl | rfl | rfl | rfl
            · exact ⟨_, by omega, rfl⟩
            · exact ⟨_, by omega, rfl⟩
            · exact ⟨_, by omega, rfl⟩
            · exact ⟨_, by omega, rfl⟩
            · exact ⟨_, by omega, rfl⟩
          simp! only []
          refine w_pick k (by simp) (by omega) fun xk t8 l8 hxk ht8 => ?_
          obtain ⟨kd, hkd, rfl⟩ : ∃ kd : Str, KwOk kd ∧ xk = .str kd := by
            simp only [List.mem_cons, List.not_mem_nil, or_false] at hxk
            rcases hxk with rfl | rfl | rfl | rfl | rfl
            · exact ⟨_, .inl rfl, rfl⟩
            · exact ⟨_, .inl rfl, rfl⟩
            · exact ⟨_, .inr (.inl rfl), rfl⟩
            · exact ⟨_, .inr (.inl rfl), rfl⟩
            · exact ⟨_, .inr (.inr rfl), rfl⟩
          simp! only []
          refine fin ?_
          have := h (.lim kd p q n) t8 l8 ⟨hkd, hp, hq, hpq, hn.1, hn.2⟩ (by omega)
          rw [show (LF.lim kd p q n).law ps = .tup [.str kd, .str one, .str two, .int n] from by show D.tup [_, .str (ps.getD p ""), .str (ps.getD q ""), _] = _; rw [hpx, hqx]] at this
          exact this
/-- a fact is data -/
theorem sh_law {ps : List Str} (P : PsOk ps) (f : LF) (h : f.ok ps.length) : shD 63 (f.law ps) = true := by
  have nm : ∀ {p : Nat}, p < ps.length → PyData.strOk (ps.getD p "") = true := fun hp => (nm_of (P.ok _ (List.mem_of_getElem? (getD_at hp)))).sok
  cases f with
  | by_ p m r => simp only [LF.law, shD, shL, nm h.1, show PyData.strOk (Str.ofString "by") = true from sOk_lit _, Bool.and_true]
  | gap p q m r => simp only [LF.law, shD, shL, nm h.1, nm h.2.1, show PyData.strOk (Str.ofString "gap") = true from sOk_lit _, Bool.and_true]
  | apart p c a q e b => simp only [LF.law, shD, shL, nm h.1, nm h.2.1, show PyData.strOk (Str.ofString "apart") = true from sOk_lit _, Bool.and_true]
  | lim kd p q n => simp only [LF.law, shD, shL, nm h.2.1, nm h.2.2.1, show PyData.strOk kd = true from kw_sok h.1, Bool.and_true]
/-- whether a thing is among others: no if its data are not -/
theorem notin_any {d : D} {xs : List D} {i : Nat} (hi : M[i]? = some (.lst xs)) (h : shD 63 d = true) (hx : shL 63 xs = true) (hd : ∀ y, d ≠ .str y ∨ True) : ∃ b, cmpS .NotIn d (.ref i) M = .ok (.val (.bl b)) M ∧ (b = true → d ∉ xs) := by
  obtain ⟨p, l, h1, h2, h3⟩ := inO_list (M := M) (d := d) (xs := xs) (s := .ref i) (by unfold seqL; simp only [hi]) (fun _ => .inr trivial) h hx (fun _ _ => by simp)
  refine ⟨!(l.any fun z => PyData.eqv z p), ?_, fun hb hm => ?_⟩
  · show rB ((inO d (.ref i) M).map not) M = _
    rw [h3]; rfl
  · have key : ∀ (xs : List D) (l : List PyData), pyL xs = some l → d ∈ xs → p ∈ l := by
      intro xs
      induction xs with
      | nil => intro l _ hm; cases hm
      | cons x xs ih =>
        intro l hl hm
        rw [pyL] at hl
        cases hx0 : x.py0 with
        | none => rw [hx0] at hl; cases hl
        | some q =>
          cases hq : pyL xs with
          | none => rw [hx0, hq] at hl; cases hl
          | some l' =>
            rw [hx0, hq] at hl
            cases hl
            rcases List.mem_cons.mp hm with rfl | hm
            · rw [h1] at hx0; cases hx0; exact List.mem_cons_self
            · exact List.mem_cons_of_mem _ (ih l' hq hm)
    obtain ⟨p', g1, g2, g3⟩ := shD_py 63 d h
    rw [h1] at g1
    cases g1
    have : (l.any fun z => PyData.eqv z p) = true := List.any_eq_true.mpr ⟨p, key xs l h2 hm, PySem.SeqAt.eqv_refl p g2⟩
    rw [this] at hb
    cases hb
theorem sz_line {n : Nat} (h : n < 1000) : n < sizeLine := by rw [sizeLine_eq]; omega
theorem rng_ok {i : Int} (h0 : 0 ≤ i) (h1 : i < 2 ^ 40) : rng1S [.int i] M = .ok (i.toNat, gRng 0 i.toNat) M := by
  show (if okI i then R.ok (i.toNat, gRng 0 i.toNat) M else .stuck) = _
  rw [if_pos]
  unfold okI
  rw [Bool.and_eq_true]
  exact ⟨decide_eq_true (by omega), decide_eq_true (by omega)⟩
theorem g_rng {n j : Nat} (h : j < n) : gRng 0 n M j = some (some (.int (j : Nat))) := by
  unfold gRng
  rw [if_pos h]
  simp
theorem g_rngE {n : Nat} : gRng 0 n M n = some none := by
  unfold gRng
  rw [if_neg (Nat.lt_irrefl _)]
theorem as1 {e : Sl} {a : Nat} {x : D} : putE e [(a, x)] = e.set a (some x) := rfl
theorem w_wide_facts (k : Nat) {ps : List Str} (P : PsOk ps) (hne : ps ≠ []) {many : Int} (hm : 0 ≤ many ∧ many ≤ 12) (hR : Clo (pen ns t l :: R)) (ht : 0 ≤ t ∧ t < 2 ^ 30)
    (h : ∀ (fs : List LF) (t' l' : Int), (∀ f ∈ fs, f.ok ps.length) → fs.Nodup → fs.length ≤ many.toNat → 0 ≤ t' ∧ t' ≤ t + 300 → Q (.own (.lst (fs.map (LF.law ps)))) (pen ns t' l' :: R)) :
    Wp ((mkDy G T (k + 4)).call "_law_wide_facts" [.ref 0, .lst (ps.map D.str), .int many] (pen ns t l :: R)) Q NoE := by
  rw [c__law_wide_facts, w_gcN]
  unfold m__law_wide_facts b1__law_wide_facts t1__law_wide_facts
  simp! only [rng_ok hm.1 (by omega)]
  refine ws_forL (N := many.toNat) (I := fun j e M' => j ≤ many.toNat ∧ ∃ (fs : List LF) (t' l' : Int), (∀ f ∈ fs, f.ok ps.length) ∧ fs.Nodup ∧ fs.length ≤ j ∧ (0 ≤ t' ∧ t' ≤ t + 20 * j) ∧ M' = pen ns t' l' :: (R ++ [.lst (fs.map (LF.law ps))]) ∧ ∃ x4 x5 : Option D, e = [some (.ref 0), some (.lst (ps.map D.str)), some (.int many), some (.ref (R.length + 1)), x4, x5]) (fun j e M' hj ⟨_, fs, t', l', ho, nd, hl, ht', hM', x4, x5, he⟩ => ?_) (fun e M' ⟨_, fs, t', l', ho, nd, hl, ht', hM', x4, x5, he⟩ => ?_) many.toNat 0 _ _ rfl ⟨Nat.zero_le _, [], t, l, fun _ z => (List.not_mem_nil z).elim, List.nodup_nil, Nat.le_refl _, by omega, rfl, none, none, rfl⟩
  · subst hM' he
    refine ⟨_, [(4, .int (j : Nat))], g_rng hj, rfl, ?_⟩
    simp! only [as1]
    refine w_wide_fact k P hne (by omega) fun f t2 l2 hf ht2 => ?_
    have at1 : ∀ (t l : Int), (pen ns t l :: (R ++ [MO.lst (fs.map (LF.law ps))]))[R.length + 1]? = some (.lst (fs.map (LF.law ps))) := fun t l => by rw [List.getElem?_cons_succ]; exact at_app0
    obtain ⟨b, hb, hnb⟩ := notin_any (M := pen ns t2 l2 :: (R ++ [MO.lst (fs.map (LF.law ps))])) (at1 t2 l2) (sh_law P f hf) (shL_mem fs fun g hg => sh_law P g (ho g hg)) (fun _ => .inr trivial)
    cases b with
    | false =>
      simp! only [hb]
      exact ⟨hj, fs, t2, l2, ho, nd, by omega, by omega, by trivial, _, _, rfl⟩
    | true =>
      have mk := meK_ref (M := pen ns t2 l2 :: (R ++ [MO.lst (fs.map (LF.law ps))])) (e := [some (.ref 0), some (.lst (ps.map D.str)), some (.int many), some (.ref (R.length + 1)), some (.int (j : Nat)), some (f.law ps)]) (ms := mConsA false (mVar 5) mNil) appendS (ownG (mkDy G T (k + 3)) "append") "append" (R.length + 1) _ (at1 t2 l2)
      have ap := app_ref (d := f.law ps) (at1 t2 l2) (sz_line (by rw [List.length_map]; omega))
      rw [List.set_cons_succ, set_app0] at ap
      simp! only [hb, mk, ap]
      refine ⟨hj, fs ++ [f], t2, l2, ?_, ?_, by simp; omega, by omega, by simp, _, _, rfl⟩
      · intro g hg
        rcases List.mem_append.mp hg with hg | hg
        · exact ho g hg
        · rw [List.mem_singleton.mp hg]; exact hf
      · rw [List.nodup_append]
        refine ⟨nd, by simp, fun a ha b hb2 e => ?_⟩
        rw [List.mem_singleton.mp hb2] at e
        subst e
        exact hnb rfl (List.mem_map_of_mem ha)
  · subst hM' he
    refine ⟨g_rngE, ?_⟩
    simp! only []
    have gr : gcK (R.length + 1) (.val (.ref (R.length + 1))) (pen ns t' l' :: (R ++ [.lst (fs.map (LF.law ps))])) = .ok (.own (.lst (fs.map (LF.law ps)))) (pen ns t' l' :: R) := by
      have hc : Clo (pen ns t' l' :: R) := by
        unfold Clo at hR ⊢
        rw [List.all_cons, List.length_cons] at hR ⊢
        rw [Bool.and_eq_true] at hR
        rw [cl_pen, hR.2]
        rfl
      exact gcK_ref (M := pen ns t' l' :: R) (L := []) hc (clL_of (f := LF.law ps) (fun f => by cases f <;> rfl) fs)
    have hlen : (pen ns t l :: R).length = R.length + 1 := rfl
    rw [gr]
    exact h fs t' l' ho nd hl (by omega)
end

end Pc

set_option Elab.async false
set_option linter.all false
set_option maxRecDepth 100000
set_option maxHeartbeats 8000000
set_option autoImplicit false
namespace Pc
open PySem PySem.Spec PyProof.Rows L2 TL
local macro_rules | `(tactic| simp! only [$ls,*]) => `(tactic| simp -implicitDefEqProofs only [bind_ok, bnd_ok, bnd_exc, map_ok, toS_ok, tos_ok, tos_exc, seq_nx, seq_rt, sq_nx, sq_rt, sq_bk, sq_ct, sq_exc, runS_nx, runS_rt, runS_exc, noX_ok, d_val, d_own, al_val, al_f, alK_val, alK_f, alK_t, e_seq, e_next, e_bk, e_ct, e_ret, e_retN, e_ifS, e_set, e_drop, e_A, e_D, e_val, e_var0, e_varS, e_nil, e_cons, e_cmp, e_bin, e_blt, e_call, e_bl, blK_b, e_tru, trK_b, e_notT, e_andT, e_orT, e_and, andK_b, e_or, orK_b, e_not, notK_b, e_neg, negK_i, e_if, e_chain, chK_b, e_tup, e_lst, e_idx, e_attrX, e_slice, e_noP, e_partE, ptK2_i, e_star, starK_lst, starK_tup, e_meth, ma_join, ma_split, ma_append, ma_pop, ma_index, ma_extend, meK_str, meK_lst, sl_tup, sl_lst, e_lc, e_for, e_ianyO, e_ienu, e_irng1, e_irng2, e_izip, e_par, e_asg, e_sub, e_fld, e_lenO, e_dict, e_pn, e_pc, e_dnew, e_isi, e_make, e_raise, rsK_none, gcE_same, gcK_same, gcK_own0, o_dk, stK_s, eq_int, ne_int, eq_str, ne_str, sOk_lit, sOk_numS, lt_int, le_int, gt_int, ge_int, in_sign, is_non, isNot_non, is_tup, isNot_tup, is_int, isNot_int, lenO_tup, lenO_ctup, lenO_lst, lenO_scr, add_int, sub_int, int_int, abs_int, tuple_lst, tuple_tup, listO_lst, listO_tup, all_bls, o_lst, max_two, min_two, anyO_str, anyO_tup, anyO_ctup, anyO_lst, enu_tup, enu_lst, startE, w_ok, w_exc, ↓w_bnd, ↓w_bind, ↓ws_tos, ↓ws_sq, ↓ws_toS, ↓ws_seq, w_map, w_noX, w_run, w_al, w_ite, ws_nx, ws_rt, ws_bk, ws_ct, ws_exc, ws_ite, List.map_cons, List.map_nil, List.length_cons, List.length_nil, List.replicate, List.nil_append, List.cons_append, List.set_cons_zero, List.set_cons_succ, Nat.reduceAdd, Nat.reduceSub, if_true, if_false, Bool.false_eq_true, ite_true, ite_false, Bool.not_true, Bool.not_false, decide_true, decide_false, true_or, or_true, false_or, or_false, Nat.reduceEqDiff, Nat.reduceLT, Int.reduceLT, Int.reduceLE, or_self, sz0, sz1, sz2, sz3, sz4, sz5, sz6, sz7, sz8, sz9, ix_tup0, ix_tup1, ix_tup2, ix_tup3, ix_tup4, ix_tup5, ix_lst0, ix_lst1, ix_lst2, ix_lst3, ix_lst4, ix_lst5, ix_ctup0, ix_ctup1, ix_ctup2, ix_ctup3, ix_ctup4, ix_ctup5, $ls,*])
/-! K10: drawn names; pairs -/
abbrev abc : Str := "abcdefghijklmnopqrstuvwxyz"
def sg (c : Nat) : D := .str ⟨#[c]⟩
section
variable {M R : Mem} {ns : List Int} {t l : Int} {Q : RV → Mem → Prop} {X : XP}
theorem abc_tl : tl abc = List.range' 97 26 := by decide +kernel
theorem abc_len : abc.length = 26 := by decide +kernel
theorem w_letter (k : Nat) (ht : 0 ≤ t ∧ t < 2 ^ 39) (h : ∀ (c : Nat) (t' l' : Int), 97 ≤ c ∧ c ≤ 122 → 0 ≤ t' ∧ t' ≤ t + 1 → Q (.val (sg c)) (pen ns t' l' :: R)) : Wp ((mkDy G T (k + 2)).call "_law_pick" [.ref 0, .str abc] (pen ns t l :: R)) Q NoE := by
  rw [c__law_pick, w_gcN]
  unfold m__law_pick
  have e26 : ∀ {own : OwnM} {M : Mem}, lenO own [.str abc] M = .ok (.val (.int 26)) M := fun {own M} => by
    have := lenO_str (own := own) (M := M) (z := abc) (by rw [abc_len, sizeLine_eq]; decide)
    rw [this, abc_len]; rfl
  simp! only [e26]
  refine w_draw k (by decide) (by omega) fun r t1 l1 hr ht1 => ?_
  have hl : abc.cps.toList.length = 26 := by decide +kernel
  have hlt : r.toNat < abc.cps.toList.length := by omega
  have hc : 97 ≤ abc.cps.toList[r.toNat] ∧ abc.cps.toList[r.toNat] ≤ 122 := by
    have : abc.cps.toList[r.toNat] ∈ tl abc := List.getElem_mem hlt
    rw [abc_tl, List.mem_range'_1] at this
    omega
  have e : idxS (.str abc) (.int r) (pen ns t1 l1 :: R) = .ok (.val (sg abc.cps.toList[r.toNat])) (pen ns t1 l1 :: R) := by
    have ea : atI abc.cps.toList r = some abc.cps.toList[r.toNat] := by
      unfold atI ixN
      rw [if_pos hr.1, if_pos (by omega), Option.bind_some, List.getElem?_eq_getElem hlt]
    show (if abc.length ≤ sizeLine then oV ((atI abc.cps.toList r).map fun c => D.str ⟨#[c]⟩) (pen ns t1 l1 :: R) else .stuck) = _
    rw [if_pos (by rw [abc_len, sizeLine_eq]; decide), ea]
    rfl
  simp! only [e]
  rw [show gcK (R.length + 1) (.val (sg abc.cps.toList[r.toNat])) (pen ns t1 l1 :: R) = .ok (.val (sg abc.cps.toList[r.toNat])) (pen ns t1 l1 :: R) from gcK_same (M := pen ns t1 l1 :: R)]
  exact h _ t1 l1 hc ht1
theorem join_sg (ys : List Nat) (h : ys.length ≤ 1000) : joinS (.str "") [.lst (ys.map sg)] M = .ok (.val (.str (SX.S ys))) M := by
  have e : ys.map sg = (ys.map fun c => SX.S [c]).map D.str := by
    rw [List.map_map]
    rfl
  have hs : ((ys.map fun c => SX.S [c]).map fun y : Str => y.length).sum + (ys.map fun c => SX.S [c]).length * Str.length "" ≤ 16777216 := by
    have z : ∀ l : List Nat, ((l.map fun c => SX.S [c]).map fun y : Str => y.length).sum = l.length := by
      intro l
      induction l with
      | nil => rfl
      | cons a l ih =>
        rw [List.map_cons, List.map_cons, List.sum_cons, ih, List.length_cons]
        show 1 + l.length = l.length + 1
        omega
    rw [z]
    show ys.length + _ * 0 ≤ _
    omega
  have jl : ∀ l : List Nat, TL.joinL [] (l.map fun c => [c]) = l := by
    intro l
    induction l with
    | nil => rfl
    | cons a l ih =>
      cases l with
      | nil => rfl
      | cons b l =>
        show [a] ++ ([] ++ TL.joinL [] ((b :: l).map fun c => [c])) = a :: b :: l
        rw [ih]
        rfl
  have j : Txt.join "" (ys.map fun c => SX.S [c]) = SX.S ys := by
    have z := SX.join_S [] (ys.map fun c => [c])
    rw [jl, List.map_map] at z
    exact z
  rw [e, join_lst hs, j]
theorem tl_S (ys : List Nat) : tl (SX.S ys) = ys := by
  show ys.toArray.toList = ys
  simp
theorem sp_barred (k : Nat) : (mkDy G T (k + 1)).call "_law_barred" [] M = .ok (.own (.lst (barS.map D.str))) M := by
  rw [c__law_barred]
  have e : runS (m__law_barred (mkDy G T k) (startE ["words"] []) M) = .ok (.own (.lst (barS.map D.str))) M := by kernel_rfl
  rw [e]
  exact gc_own' _ _
theorem bar_sok : ∀ y ∈ barS, sOk y := fun y hy => by
  have : barS.all (fun y => PyData.strOk y) = true := by decide +kernel
  exact List.all_eq_true.mp this y hy
def fill : List Str := ["p", "q", "low", "ends", "partly", "x"]
theorem fill_ok : ∀ y ∈ fill, nameB y = true := fun y hy => by
  have : fill.all (fun y => nameB y) = true := by decide +kernel
  exact List.all_eq_true.mp this y hy
theorem w_any_names (k : Nat) {many : Int} (hm : 1 ≤ many ∧ many ≤ 3) (hR : Clo (pen ns t l :: R)) (ht : 0 ≤ t ∧ t < 2 ^ 30)
    (h : ∀ (ps : List Str) (t' l' : Int), PsOk ps → ps ≠ [] → 0 ≤ t' ∧ t' ≤ t + 600 → Q (.own (.lst (ps.map D.str))) (pen ns t' l' :: R)) :
    Wp ((mkDy G T (k + 3)).call "_law_any_names" [.ref 0, .int many] (pen ns t l :: R)) Q NoE := by
  have as2' : ∀ {e : Sl} {a b : Nat} {x y : D} {M : Mem}, asK (gT 2 (gsCons (gN a) (gsCons (gN b) gsNil))) e (.tup [x, y]) M = .nx ((e.set a (some x)).set b (some y)) M := fun {e a b x y M} => rfl
  rw [c__law_any_names, w_gcN]
  unfold m__law_any_names b3__law_any_names t3__law_any_names
  simp! only [as2', rng_ok (show (0 : Int) ≤ 30 by decide) (by decide)]
  refine ws_forL (N := 30) (I := fun j e M' => j ≤ 30 ∧ ∃ (fs : List Str) (t' l' : Int), (∀ f ∈ fs, nameB f = true) ∧ fs.Nodup ∧ fs.length ≤ 3 ∧ (0 ≤ t' ∧ t' ≤ t + 20 * j) ∧ M' = pen ns t' l' :: (R ++ [.lst (fs.map D.str)]) ∧ ∃ x4 x5 x6 : Option D, e = [some (.ref 0), some (.int many), some (.str abc), some (.ref (R.length + 1)), x4, x5, x6]) (fun j e M' hj ⟨_, fs, t', l', ho, nd, hl, ht', hM', x4, x5, x6, he⟩ => ?_) (fun e M' ⟨_, fs, t', l', ho, nd, hl, ht', hM', x4, x5, x6, he⟩ => ?_) 30 0 _ _ rfl ⟨Nat.zero_le _, [], t, l, fun _ z => (List.not_mem_nil z).elim, List.nodup_nil, Nat.zero_le _, by omega, rfl, none, none, none, rfl⟩
  · subst hM' he
    refine ⟨_, [(4, .int (j : Nat))], g_rng hj, rfl, ?_⟩
    have at1 : ∀ (t l : Int), (pen ns t l :: (R ++ [MO.lst (fs.map D.str)]))[R.length + 1]? = some (.lst (fs.map D.str)) := fun t l => by rw [List.getElem?_cons_succ]; exact at_app0
    have fok : ∀ y ∈ fs, sOk y := fun y hy => (nm_of (ho y hy)).sok
    by_cases hlt : ((fs.map D.str).length : Int) < many
    · simp! only [as1, lenO_ref (at1 t' l'), decide_eq_true hlt]
      unfold l2__law_any_names
      simp! only []
      refine w_draw (k + 1) (by decide) (by omega) fun r t1 l1 hr ht1 => ?_
      simp! only [rng_ok (i := 1 + r) (by omega) (by omega)]
      refine w_lcL (N := (1 + r).toNat) (I := fun i acc M' => i ≤ (1 + r).toNat ∧ ∃ (ys : List Nat) (t2 l2 : Int), ys.length = i ∧ (∀ c ∈ ys, 97 ≤ c ∧ c ≤ 122) ∧ acc = ys.map sg ∧ (0 ≤ t2 ∧ t2 ≤ t1 + i) ∧ M' = pen ns t2 l2 :: (R ++ [MO.lst (fs.map D.str)])) (fun i acc M' hi ⟨_, ys, t2, l2, hy, hc, ha, ht2, hM'⟩ => ?_) (fun acc M' ⟨_, ys, t2, l2, hy, hc, ha, ht2, hM'⟩ => ?_) (1 + r).toNat 0 [] _ rfl ⟨Nat.zero_le _, [], t1, l1, rfl, fun _ z => (List.not_mem_nil z).elim, rfl, by omega, rfl⟩
      · subst ha hM'
        refine ⟨_, [(6, .int (i : Nat))], g_rng hi, rfl, rfl, ?_⟩
        show Wp (mYes _ _) _ _
        unfold mYes
        simp! only [as1, wipeS]
        refine w_letter k (by omega) fun c t3 l3 hcc ht3 => ?_
        simp! only []
        refine ⟨sz_line (by rw [List.length_map]; omega), hi, ys ++ [c], t3, l3, by simp [hy], fun x hx => ?_, by simp, by omega, by trivial⟩
        rcases List.mem_append.mp hx with hx | hx
        · exact hc x hx
        · rw [List.mem_singleton.mp hx]; exact hcc
      · subst ha hM'
        refine ⟨g_rngE, ?_⟩
        have wd : Wd (SX.S ys) := ⟨sOk_of fun c hcx => by rw [tl_S] at hcx; have := hc c hcx; omega, by rw [len_tl, tl_S, sizeLine_eq]; omega⟩
        have n1 := notin_ref (M := pen ns t2 l2 :: (R ++ [MO.lst (fs.map D.str)])) (at1 t2 l2) wd.ok fok
        have n2 := notin_lst (M := pen ns t2 l2 :: (R ++ [MO.lst (fs.map D.str)])) wd.ok bar_sok
        simp! only [join_sg ys (by omega), n1]
        cases h1 : (fs.any fun y => y == SX.S ys) with
        | true =>
          simp! only []
          exact ⟨hj, fs, t2, l2, ho, nd, hl, by omega, by trivial, _, _, _, rfl⟩
        | false =>
          simp! only [sp_barred, n2]
          cases h2 : (barS.any fun y => y == SX.S ys) with
          | true =>
            simp! only []
            exact ⟨hj, fs, t2, l2, ho, nd, hl, by omega, by trivial, _, _, _, rfl⟩
          | false =>
            have mk := meK_ref (M := pen ns t2 l2 :: (R ++ [MO.lst (fs.map D.str)])) (e := [some (.ref 0), some (.int many), some (.str abc), some (.ref (R.length + 1)), some (.int (j : Nat)), some (.str (SX.S ys)), x6]) (ms := mConsA false (mVar 5) mNil) appendS (ownG (mkDy G T (k + 2)) "append") "append" (R.length + 1) _ (at1 t2 l2)
            have ap := app_ref (d := .str (SX.S ys)) (at1 t2 l2) (sz_line (by rw [List.length_map]; omega))
            rw [List.set_cons_succ, set_app0] at ap
            simp! only [mk, ap]
            refine ⟨hj, fs ++ [SX.S ys], t2, l2, ?_, ?_, ?_, by omega, by simp, _, _, _, rfl⟩
            · intro g hg
              rcases List.mem_append.mp hg with hg | hg
              · exact ho g hg
              · rw [List.mem_singleton.mp hg]
                unfold nameB
                rw [h2, tl_S, len_tl, tl_S, decide_eq_true (show 1 ≤ ys.length by omega), decide_eq_true (show ys.length ≤ 12 by omega)]
                simp only [Bool.true_and, Bool.not_false, List.all_eq_true]
                exact fun c hcx => decide_eq_true (hc c hcx)
            · rw [List.nodup_append]
              refine ⟨nd, by simp, fun a ha b hb2 e => ?_⟩
              rw [List.mem_singleton.mp hb2] at e
              subst e
              rw [any_mem] at h1
              exact of_decide_eq_false h1 ha
            · rw [List.length_map] at hlt
              rw [List.length_append]
              simp
              omega
    · simp! only [as1, lenO_ref (at1 t' l'), decide_eq_false hlt]
      exact ⟨hj, fs, t', l', ho, nd, hl, by omega, by trivial, _, _, _, rfl⟩
  · subst hM' he
    refine ⟨g_rngE, ?_⟩
    have at1 : (pen ns t' l' :: (R ++ [MO.lst (fs.map D.str)]))[R.length + 1]? = some (.lst (fs.map D.str)) := by rw [List.getElem?_cons_succ]; exact at_app0
    have fok : ∀ y ∈ fs, sOk y := fun y hy => (nm_of (ho y hy)).sok
    have lc : l1__law_any_names (mkDy G T (k + 2)) [some (.ref 0), some (.int many), some (.str abc), some (.ref (R.length + 1)), x4, x5, x6] (pen ns t' l' :: (R ++ [MO.lst (fs.map D.str)])) = .ok (.own (.lst ((fill.filter fun y => !(fs.any fun z => z == y)).map D.str))) (pen ns t' l' :: (R ++ [MO.lst (fs.map D.str)])) := by
      unfold l1__law_any_names
      simp! only []
      have z := lc_typed (M := pen ns t' l' :: (R ++ [MO.lst (fs.map D.str)])) (g := gSeq (.lst (fill.map D.str))) (tg := gN 5) (t := mBl (mCmp .NotIn (mVar 5) (mVar 3))) (el := mA false (mVar 5)) (vs := [5]) (i := 5) (env := [some (.ref 0), some (.int many), some (.str abc), some (.ref (R.length + 1)), x4, x5, x6]) fill D.str D.str (fun y => !(fs.any fun z => z == y)) rfl rfl (g_lst _) (by rw [sizeLine_eq]; decide) (fun y hy => ⟨by
        show (mBl (mCmp .NotIn (mVar 5) (mVar 3))) [some (.ref 0), some (.int many), some (.str abc), some (.ref (R.length + 1)), x4, some (.str y), x6] (pen ns t' l' :: (R ++ [MO.lst (fs.map D.str)])) = _
        simp! only [notin_ref at1 (nm_of (fill_ok y hy)).sok fok], fun _ => rfl⟩)
      unfold fill at z
      simp only [List.map_cons, List.map_nil, List.length_cons, List.length_nil, Nat.reduceAdd] at z
      rw [z]
      rfl
    have hfl : (fill.filter fun y => !(fs.any fun z => z == y)).length ≤ 6 := List.length_filter_le _ _
    have hcut : cutL (fs.map D.str ++ (fill.filter fun y => !(fs.any fun z => z == y)).map D.str) none (some many) = ((fs ++ fill.filter fun y => !(fs.any fun z => z == y)).take many.toNat).map D.str := by
      have z := cutL_take ((fs ++ fill.filter fun y => !(fs.any fun z => z == y)).map D.str) many.toNat
      rw [show ((many.toNat : Nat) : Int) = many by omega] at z
      rw [← List.map_append, List.map_take, z]
    simp! only [lc, add_ref_lst at1 (show (fs.map D.str).length + ((fill.filter fun y => !(fs.any fun z => z == y)).map D.str).length ≤ sizeLine by rw [List.length_map, List.length_map, sizeLine_eq]; omega), hcut]
    have hc : Clo (pen ns t' l' :: R) := by
      unfold Clo at hR ⊢
      rw [List.all_cons, List.length_cons] at hR ⊢
      rw [Bool.and_eq_true] at hR
      rw [cl_pen, hR.2]
      rfl
    rw [show gcK (R.length + 1) (.own (.lst (((fs ++ fill.filter fun y => !(fs.any fun z => z == y)).take many.toNat).map D.str))) (pen ns t' l' :: (R ++ [MO.lst (fs.map D.str)])) = _ from gcK_own (M := pen ns t' l' :: R) (L := [MO.lst (fs.map D.str)]) hc (clL_strs _ _)]
    have hnd : (fs ++ fill.filter fun y => !(fs.any fun z => z == y)).Nodup := by
      rw [List.nodup_append]
      refine ⟨nd, List.Nodup.sublist List.filter_sublist (by decide +kernel), fun a ha b hb e => ?_⟩
      subst e
      have := (List.mem_filter.mp hb).2
      rw [any_mem, decide_eq_true ha] at this
      cases this
    refine h _ t' l' ⟨hnd.sublist (List.take_sublist _ _), fun p hp => ?_, ?_⟩ ?_ (by omega)
    · rcases List.mem_append.mp (List.mem_of_mem_take hp) with hp | hp
      · exact ho p hp
      · exact fill_ok p (List.mem_filter.mp hp).1
    · rw [List.length_take]; omega
    · intro z
      have := congrArg List.length z
      rw [List.length_take, List.length_append, List.length_nil] at this
      have hfs : fs.length = 0 := by omega
      have hfn : fs = [] := List.length_eq_zero_iff.mp hfs
      subst hfn
      have e6 : (fill.filter fun y => !(([] : List Str).any fun z => z == y)).length = 6 := by decide +kernel
      rw [e6] at this
      omega
end

end Pc

set_option Elab.async false
set_option linter.all false
set_option maxRecDepth 100000
set_option maxHeartbeats 8000000
set_option autoImplicit false
namespace Pc
open PySem PySem.Spec PyProof.Rows L2 TL
local macro_rules | `(tactic| simp! only [$ls,*]) => `(tactic| simp -implicitDefEqProofs only [bind_ok, bnd_ok, bnd_exc, map_ok, toS_ok, tos_ok, tos_exc, seq_nx, seq_rt, sq_nx, sq_rt, sq_bk, sq_ct, sq_exc, runS_nx, runS_rt, runS_exc, noX_ok, d_val, d_own, al_val, al_f, alK_val, alK_f, alK_t, e_seq, e_next, e_bk, e_ct, e_ret, e_retN, e_ifS, e_set, e_drop, e_A, e_D, e_val, e_var0, e_varS, e_nil, e_cons, e_cmp, e_bin, e_blt, e_call, e_bl, blK_b, e_tru, trK_b, e_notT, e_andT, e_orT, e_and, andK_b, e_or, orK_b, e_not, notK_b, e_neg, negK_i, e_if, e_chain, chK_b, e_tup, e_lst, e_idx, e_attrX, e_slice, e_noP, e_partE, ptK2_i, e_star, starK_lst, starK_tup, e_meth, ma_join, ma_split, ma_append, ma_pop, ma_index, ma_extend, meK_str, meK_lst, sl_tup, sl_lst, e_lc, e_for, e_ianyO, e_ienu, e_irng1, e_irng2, e_izip, e_par, e_asg, e_sub, e_fld, e_lenO, e_dict, e_pn, e_pc, e_dnew, e_isi, e_make, e_raise, rsK_none, gcE_same, gcK_same, gcK_own0, o_dk, stK_s, eq_int, ne_int, eq_str, ne_str, sOk_lit, sOk_numS, lt_int, le_int, gt_int, ge_int, in_sign, is_non, isNot_non, is_tup, isNot_tup, is_int, isNot_int, lenO_tup, lenO_ctup, lenO_lst, lenO_scr, add_int, sub_int, int_int, abs_int, tuple_lst, tuple_tup, listO_lst, listO_tup, all_bls, o_lst, max_two, min_two, anyO_str, anyO_tup, anyO_ctup, anyO_lst, enu_tup, enu_lst, startE, w_ok, w_exc, ↓w_bnd, ↓w_bind, ↓ws_tos, ↓ws_sq, ↓ws_toS, ↓ws_seq, w_map, w_noX, w_run, w_al, w_ite, ws_nx, ws_rt, ws_bk, ws_ct, ws_exc, ws_ite, List.map_cons, List.map_nil, List.length_cons, List.length_nil, List.replicate, List.nil_append, List.cons_append, List.set_cons_zero, List.set_cons_succ, Nat.reduceAdd, Nat.reduceSub, if_true, if_false, Bool.false_eq_true, ite_true, ite_false, Bool.not_true, Bool.not_false, decide_true, decide_false, true_or, or_true, false_or, or_false, Nat.reduceEqDiff, Nat.reduceLT, Int.reduceLT, Int.reduceLE, or_self, sz0, sz1, sz2, sz3, sz4, sz5, sz6, sz7, sz8, sz9, ix_tup0, ix_tup1, ix_tup2, ix_tup3, ix_tup4, ix_tup5, ix_lst0, ix_lst1, ix_lst2, ix_lst3, ix_lst4, ix_lst5, ix_ctup0, ix_ctup1, ix_ctup2, ix_ctup3, ix_ctup4, ix_ctup5, $ls,*])
/-! K11: contracts looked at; the law -/
def ctrV (ps : List Str) (x : Str) (fs : List LF) : D := .obj "Contract" conN (conD ps x fs)
def prs (ls : List Str) : List D := ls.flatMap fun a => ls.map fun b => .tup [.str a, .str b]
section
variable {M R : Mem} {ns : List Int} {t l : Int} {ps : List Str} {x : Str} {fs : List LF} {Y : Dy}
theorem con_d : (conO ps x fs).d = ctrV ps x fs := rfl
theorem at_pointers : attrX (okB G) (oxB G) "pointers" (ctrV ps x fs) M = .ok (.val (.tup (ps.map D.str))) M := attrX_obj (ok_con _ (by simp [conN])) (by kernel_rfl)
theorem at_text : attrX (okB G) (oxB G) "text" (ctrV ps x fs) M = .ok (.val (.str x)) M := attrX_obj (ok_con _ (by simp [conN])) (by kernel_rfl)
theorem at_lines : attrX (okB G) (oxB G) "lines" (ctrV ps x fs) M = .ok (.val (.tup ((linesL x).map D.str))) M := attrX_obj (ok_con _ (by simp [conN])) (by kernel_rfl)
theorem at_far : attrX (okB G) (oxB G) "far" (ctrV ps x fs) M = .ok (.val (.int (maxF 0 (fs.map LF.far)))) M := attrX_obj (ok_con _ (by simp [conN])) (by kernel_rfl)
theorem at_modulus : attrX (okB G) (oxB G) "modulus" (ctrV ps x fs) M = .ok (.val (.int (maxF 1 (fs.map LF.md)))) M := attrX_obj (ok_con _ (by simp [conN])) (by kernel_rfl)
theorem sp_con_len (k : Nat) (h : (linesL x).length < 2 ^ 63) : (mkDy G T (k + 1)).meth "Contract" "__len__" [ctrV ps x fs] M = .ok (.val (.int (linesL x).length)) M := by
  rw [c_Contract_len]
  unfold m_Contract_len
  simp! only [at_lines, List.length_map, gc_same]
theorem len_con (k : Nat) (h : (linesL x).length < 2 ^ 63) : lenO (ownG (mkDy G T (k + 1)) "__len__") [ctrV ps x fs] M = .ok (.val (.int (linesL x).length)) M := by
  unfold ctrV
  rw [lenO_obj (φ := (mkDy G T (k + 1)).meth "Contract" "__len__") (by kernel_rfl)]
  have := sp_con_len (M := M) (ps := ps) (fs := fs) k h
  unfold ctrV at this
  rw [this, bnd_ok, lenK_n h]
theorem any_con : anyIO itG (ctrV ps x fs) M = .ok (((linesL x).map D.str).length, gSeq (.tup ((linesL x).map D.str))) M := anyO_obj (f := "lines") (by kernel_rfl) (by kernel_rfl)
theorem list_con (k : Nat) (h : (linesL x).length < 2 ^ 63) (h2 : (linesL x).length ≤ sizeLine) : listO itG (ownG (mkDy G T (k + 1)) "__len__") [ctrV ps x fs] M = .ok (.own (.lst ((linesL x).map D.str))) M :=
  listO_obj (f := "lines") (by kernel_rfl) (φ := (mkDy G T (k + 1)).meth "Contract" "__len__") (by kernel_rfl) (by kernel_rfl) (by rw [List.length_map]; exact h2) (sp_con_len (ps := ps) (fs := fs) k h) h2
theorem isi_tup {xs : List D} : isiK (fun k => isT_tuple.lookup k) (.tup xs) M = .ok (.val (.bl true)) M := by kernel_rfl
theorem isi_int {i : Int} : isiK (fun k => isT_int.lookup k) (.int i) M = .ok (.val (.bl true)) M := by kernel_rfl
theorem isi_bool {i : Int} : isiK (fun k => isT_bool.lookup k) (.int i) M = .ok (.val (.bl false)) M := by kernel_rfl
theorem sp_number (k : Nat) {i : Int} : (mkDy G T (k + 1)).call "_law_number" [.int i] M = .ok (.val (.bl true)) M := by
  rw [c__law_number]
  unfold m__law_number
  simp! only [isi_int, isi_bool, gc_same]
theorem take_snoc {α : Type} {ls : List α} {j : Nat} (h : j < ls.length) : ls.take (j + 1) = ls.take j ++ [ls[j]] := by
  rw [List.take_add_one, List.getElem?_eq_getElem h]
  rfl
theorem take_flat {α β : Type} {ls : List α} {g : α → List β} {j : Nat} (h : j < ls.length) : (ls.take (j + 1)).flatMap g = (ls.take j).flatMap g ++ g ls[j] := by
  rw [take_snoc h, List.flatMap_append]
  simp
theorem prs_len (ls : List Str) (j : Nat) : ((ls.take j).flatMap fun a => ls.map fun b => D.tup [.str a, .str b]).length ≤ ls.length * ls.length := by
  rw [List.length_flatMap]
  have : ((ls.take j).map fun a => (ls.map fun b => D.tup [.str a, .str b]).length) = (ls.take j).map fun _ => ls.length := by
    congr 1; funext a; rw [List.length_map]
  rw [this]
  have h2 : ∀ (l : List Str) (n : Nat), (l.map fun _ => n).sum = l.length * n := by
    intro l n
    induction l with
    | nil => simp
    | cons a l ih => simp [ih, Nat.add_mul]; omega
  rw [h2]
  exact Nat.mul_le_mul_right _ (by rw [List.length_take]; omega)
theorem clD_pair (n : Nat) (a b : Str) : clD n (.tup [.str a, .str b]) = true := rfl
theorem clL_prs (n : Nat) (l ls : List Str) : clL n (l.flatMap fun a => ls.map fun b => D.tup [.str a, .str b]) = true := by
  have ap : ∀ (a b : List D), clL n a = true → clL n b = true → clL n (a ++ b) = true := by
    intro a b
    induction a with
    | nil => intro _ h; exact h
    | cons x a ih =>
      intro h1 h2
      have h1' : (clD n x && clL n a) = true := h1
      rw [Bool.and_eq_true] at h1'
      show (clD n x && clL n (a ++ b)) = true
      rw [h1'.1, ih h1'.2 h2]
      rfl
  induction l with
  | nil => rfl
  | cons a l ih =>
    rw [List.flatMap_cons]
    exact ap _ _ (clL_of (fun b => clD_pair n a b) ls) ih
theorem sp_pairs (k : Nat) (hM : Clo M) (hl : (linesL x).length ≤ 12) : (mkDy G T (k + 1)).call "_law_pairs_of" [ctrV ps x fs] M = .ok (.own (.lst (prs (linesL x)))) M := by
  generalize hls : linesL x = ls at hl
  have anyc : ∀ {M : Mem}, anyIO itG (ctrV ps x fs) M = .ok ((ls.map D.str).length, gSeq (.tup (ls.map D.str))) M := fun {M} => by rw [← hls]; exact any_con
  refine wp_eq ?_
  rw [c__law_pairs_of, w_gcN]
  unfold m__law_pairs_of b2__law_pairs_of t2__law_pairs_of
  simp! only [anyc]
  have l144 : ls.length * ls.length ≤ 144 := Nat.mul_le_mul hl hl
  refine ws_forL (N := ls.length) (I := fun j e M' => j ≤ ls.length ∧ M' = M ++ [.lst ((ls.take j).flatMap fun a => ls.map fun b => .tup [.str a, .str b])] ∧ ∃ x2 x3 : Option D, e = [some (ctrV ps x fs), some (.ref M.length), x2, x3]) (fun j e M' hj ⟨_, hM', x2, x3, he⟩ => ?_) (fun e M' ⟨_, hM', x2, x3, he⟩ => ?_) (ls.map D.str).length 0 _ _ (by rw [List.length_map]; rfl) ⟨Nat.zero_le _, rfl, none, none, rfl⟩
  · subst hM' he
    have hj2 : j < (ls.map D.str).length := by rw [List.length_map]; exact hj
    refine ⟨_, [(2, .str ls[j])], by rw [g_tup, List.getElem?_eq_getElem hj2, List.getElem_map], rfl, ?_⟩
    unfold b1__law_pairs_of t1__law_pairs_of
    simp! only [as1, anyc]
    refine ws_forL (N := ls.length) (I := fun i e M' => i ≤ ls.length ∧ M' = M ++ [.lst (((ls.take j).flatMap fun a => ls.map fun b => .tup [.str a, .str b]) ++ (ls.take i).map fun b => .tup [.str ls[j], .str b])] ∧ ∃ x3 : Option D, e = [some (ctrV ps x fs), some (.ref M.length), some (.str ls[j]), x3]) (fun i e M' hi ⟨_, hM', x3, he⟩ => ?_) (fun e M' ⟨_, hM', x3, he⟩ => ?_) (ls.map D.str).length 0 _ _ (by rw [List.length_map]; rfl) ⟨Nat.zero_le _, by simp, x3, rfl⟩
    · subst hM' he
      have hi2 : i < (ls.map D.str).length := by rw [List.length_map]; exact hi
      refine ⟨_, [(3, .str ls[i])], by rw [g_tup, List.getElem?_eq_getElem hi2, List.getElem_map], rfl, ?_⟩
      have at1 : (M ++ [MO.lst (((ls.take j).flatMap fun a => ls.map fun b => .tup [.str a, .str b]) ++ (ls.take i).map fun b => .tup [.str ls[j], .str b])])[M.length]? = some (.lst (((ls.take j).flatMap fun a => ls.map fun b => .tup [.str a, .str b]) ++ (ls.take i).map fun b => .tup [.str ls[j], .str b])) := at_app0
      have mk := meK_ref (e := [some (ctrV ps x fs), some (.ref M.length), some (.str ls[j]), some (.str ls[i])]) (ms := mConsA false (mTup (mConsA false (mVar 2) (mConsA false (mVar 3) mNil))) mNil) appendS (ownG (mkDy G T k) "append") "append" M.length _ at1
      have ap := app_ref (d := .tup [.str ls[j], .str ls[i]]) at1 (sz_line (by
        have := prs_len ls j
        rw [List.length_append, List.length_map, List.length_take]
        omega))
      rw [set_app0] at ap
      simp! only [as1, mk, ap]
      refine ⟨hi, ?_, _, rfl⟩
      rw [take_snoc hi, List.map_append, ← List.append_assoc]
      rfl
    · subst hM' he
      refine ⟨by rw [g_tup, List.getElem?_eq_none (by rw [List.length_map]; exact Nat.le_refl _)], ?_⟩
      refine ⟨hj, ?_, _, _, rfl⟩
      rw [take_flat hj, List.take_length]
  · subst hM' he
    refine ⟨by rw [g_tup, List.getElem?_eq_none (by rw [List.length_map]; exact Nat.le_refl _)], ?_⟩
    rw [List.take_length]
    simp! only [gcK_ref (L := []) hM (show clO M.length (.lst (ls.flatMap fun a => ls.map fun b => .tup [.str a, .str b])) = true from clL_prs _ ls ls)]
    exact ⟨by unfold prs; trivial, by trivial⟩
theorem catM_rows (rows : List (List D)) : catM M (rows.map D.lst) = some rows := by
  induction rows with
  | nil => rfl
  | cons r rows ih =>
    rw [List.map_cons]
    unfold catM
    rw [ih]
    rfl
theorem sum_rows2 (rows : List (List D)) (h : (rows.map List.length).sum ≤ sizeLine) : ∃ rv, sum2S [.lst (rows.map D.lst), .lst []] M = .ok rv M ∧ rv.d = .lst rows.flatten := by
  have e : (seqL M (.lst (rows.map D.lst))).bind (catM M) = some rows := catM_rows rows
  cases rows with
  | nil =>
    refine ⟨.val (.lst []), ?_, rfl⟩
    have e2 : sum2S [.lst [], .lst []] M = if ([] : List D).length + (([] : List (List D)).map List.length).sum ≤ sizeLine then .ok (.val (.lst [])) M else .stuck := rfl
    rw [List.map_nil, e2, if_pos (by simp)]
  | cons r rows =>
    refine ⟨.own (.lst ([] ++ (r :: rows).flatten)), ?_, rfl⟩
    have e2 : sum2S [.lst ((r :: rows).map D.lst), .lst []] M = if ([] : List D).length + ((r :: rows).map List.length).sum ≤ sizeLine then .ok (.own (.lst ([] ++ (r :: rows).flatten))) M else .stuck := by
      unfold sum2S
      dsimp only
      rw [e]
      rfl
    rw [e2, if_pos (by simpa using h)]
theorem sh_strs {ys : List Str} (h : ∀ y ∈ ys, sOk y) (n : Nat) : shL n (ys.map D.str) = true := shL_mem ys fun y hy => by unfold shD; exact h y hy
end

end Pc

set_option Elab.async false
set_option linter.all false
set_option maxRecDepth 100000
set_option maxHeartbeats 16000000
set_option autoImplicit false
namespace Pc
open PySem PySem.Spec PyProof.Rows L2 TL
local macro_rules | `(tactic| simp! only [$ls,*]) => `(tactic| simp -implicitDefEqProofs only [bind_ok, bnd_ok, bnd_exc, map_ok, toS_ok, tos_ok, tos_exc, seq_nx, seq_rt, sq_nx, sq_rt, sq_bk, sq_ct, sq_exc, runS_nx, runS_rt, runS_exc, noX_ok, d_val, d_own, al_val, al_f, alK_val, alK_f, alK_t, e_seq, e_next, e_bk, e_ct, e_ret, e_retN, e_ifS, e_set, e_drop, e_A, e_D, e_val, e_var0, e_varS, e_nil, e_cons, e_cmp, e_bin, e_blt, e_call, e_bl, blK_b, e_tru, trK_b, e_notT, e_andT, e_orT, e_and, andK_b, e_or, orK_b, e_not, notK_b, e_neg, negK_i, e_if, e_chain, chK_b, e_tup, e_lst, e_idx, e_attrX, e_slice, e_noP, e_partE, ptK2_i, e_star, starK_lst, starK_tup, e_meth, ma_join, ma_split, ma_append, ma_pop, ma_index, ma_extend, meK_str, meK_lst, sl_tup, sl_lst, e_lc, e_for, e_ianyO, e_ienu, e_irng1, e_irng2, e_izip, e_par, e_asg, e_sub, e_fld, e_lenO, e_dict, e_pn, e_pc, e_dnew, e_isi, e_make, e_raise, rsK_none, gcE_same, gcK_same, gcK_own0, o_dk, stK_s, eq_int, ne_int, eq_str, ne_str, sOk_lit, sOk_numS, lt_int, le_int, gt_int, ge_int, in_sign, is_non, isNot_non, is_tup, isNot_tup, is_int, isNot_int, lenO_tup, lenO_ctup, lenO_lst, lenO_scr, add_int, sub_int, int_int, abs_int, tuple_lst, tuple_tup, listO_lst, listO_tup, all_bls, o_lst, max_two, min_two, anyO_str, anyO_tup, anyO_ctup, anyO_lst, enu_tup, enu_lst, startE, w_ok, w_exc, ↓w_bnd, ↓w_bind, ↓ws_tos, ↓ws_sq, ↓ws_toS, ↓ws_seq, w_map, w_noX, w_run, w_al, w_ite, ws_nx, ws_rt, ws_bk, ws_ct, ws_exc, ws_ite, List.map_cons, List.map_nil, List.length_cons, List.length_nil, List.replicate, List.nil_append, List.cons_append, List.set_cons_zero, List.set_cons_succ, Nat.reduceAdd, Nat.reduceSub, if_true, if_false, Bool.false_eq_true, ite_true, ite_false, Bool.not_true, Bool.not_false, decide_true, decide_false, true_or, or_true, false_or, or_false, Nat.reduceEqDiff, Nat.reduceLT, Int.reduceLT, Int.reduceLE, or_self, sz0, sz1, sz2, sz3, sz4, sz5, sz6, sz7, sz8, sz9, ix_tup0, ix_tup1, ix_tup2, ix_tup3, ix_tup4, ix_tup5, ix_lst0, ix_lst1, ix_lst2, ix_lst3, ix_lst4, ix_lst5, ix_ctup0, ix_ctup1, ix_ctup2, ix_ctup3, ix_ctup4, ix_ctup5, $ls,*])
/-! K12: the law -/
section
variable {M R : Mem} {ns : List Int} {t l : Int}
theorem clo_pen2 {t2 l2 : Int} (h : Clo (pen ns t l :: R)) : Clo (pen ns t2 l2 :: R) := by
  unfold Clo at h ⊢
  rw [List.all_cons, List.length_cons] at h ⊢
  rw [Bool.and_eq_true] at h
  rw [cl_pen, h.2]
  rfl
theorem rfl_clo (ns : List Int) : Clo [pen ns 0 0] := by
  unfold Clo
  rw [List.all_cons, cl_pen]
  rfl
theorem bb {a : Int} : (!(a == a)) = false := by simp
theorem ff_text {fs : List LF} {ps : List Str} : (fs.map fun f => D.str (f.text ps)) = (fs.map fun f => f.text ps).map D.str := by rw [List.map_map]; rfl
theorem facts_len {ps : List Str} (P : PsOk ps) {fs : List LF} (h : ∀ f ∈ fs, f.ok ps.length) (hl : fs.length ≤ 100) : Wd (factsText ps fs) := by
  have ln : (factsText ps fs).length ≤ 12700 := by
    unfold factsText
    rw [len_tl, tl_joinT, tl_nl]
    have := joinL_len (s := 10) ((fs.map fun f => f.text ps).map tl) 126 fun p hp => by
      obtain ⟨w, hw, rfl⟩ := List.mem_map.mp hp
      obtain ⟨f, hf, rfl⟩ := List.mem_map.mp hw
      rw [← len_tl]
      exact text_len P f (h f hf)
    rw [List.length_map, List.length_map] at this
    have h3 : 127 * fs.length ≤ 127 * 100 := Nat.mul_le_mul_left _ hl
    omega
  refine ⟨sOk_of fun c hc => ?_, by rw [sizeLine_eq]; omega⟩
  unfold factsText at hc
  rw [tl_joinT, tl_nl] at hc
  rcases mem_joinL hc with rfl | ⟨p, hp, hc⟩
  · decide
  · obtain ⟨w, hw, rfl⟩ := List.mem_map.mp hp
    obtain ⟨f, hf, rfl⟩ := List.mem_map.mp hw
    have := text_signs P f (h f hf) c hc
    omega
theorem w_turn {j : Nat} (hj : j < 3) (hR : Clo (pen ns t l :: R)) (ht : 0 ≤ t ∧ t < 2 ^ 20) {x3 x4 x5 x6 x7 x8 x9 x10 x11 x12 : Option D} {rt : RV → Mem → Prop} {nx bk ct : Sl → Mem → Prop}
    (h : ∀ (R' : Mem) (t' l' : Int) (y3 y4 y5 y6 y7 y8 y9 y10 y11 y12 : Option D), Clo (pen ns t' l' :: R') → 0 ≤ t' ∧ t' ≤ t + 2000 → nx [some (.scr ns), some (.ref 0), some (.int (j : Nat)), y3, y4, y5, y6, y7, y8, y9, y10, y11, y12] (pen ns t' l' :: R')) :
    Ws (t6_law (mkDy G T 11) [some (.scr ns), some (.ref 0), some (.int (j : Nat)), x3, x4, x5, x6, x7, x8, x9, x10, x11, x12] (pen ns t l :: R)) nx rt bk ct NoE := by
  have as3' : ∀ {e : Sl} {a b c : Nat} {x y z : D} {M : Mem}, asK (gT 3 (gsCons (gN a) (gsCons (gN b) (gsCons (gN c) gsNil)))) e (.tup [x, y, z]) M = .nx (((e.set a (some x)).set b (some y)).set c (some z)) M := fun {e a b c x y z M} => rfl
  unfold t6_law
  simp! only []
  refine w_draw 10 (by decide) (by omega) fun r1 t1 l1 hr1 ht1 => ?_
  simp! only []
  refine w_any_names 8 (by omega) (clo_pen2 hR) (by omega) fun ps t2 l2 P hne ht2 => ?_
  have hne' := hne
  simp! only []
  refine w_draw 10 (by decide) (by omega) fun r3 t3 l3 hr3 ht3 => ?_
  simp! only []
  refine w_pick 9 (by simp) (by omega) fun xm t4 l4 hxm ht4 => ?_
  obtain ⟨many, hmany, rfl⟩ : ∃ n : Int, (0 ≤ n ∧ n ≤ 12) ∧ xm = .int n := by
    simp only [List.mem_cons, List.not_mem_nil, or_false] at hxm
    rcases hxm with rfl | rfl | rfl | rfl | rfl
    · exact ⟨_, by omega, rfl⟩
    · exact ⟨_, by omega, rfl⟩
    · exact ⟨_, by omega, rfl⟩
    · exact ⟨_, by omega, rfl⟩
    · exact ⟨_, by omega, rfl⟩
  simp! only []
  refine w_wide_facts 7 P hne hmany (clo_pen2 hR) (by omega) fun fs t5 l5 hfs nd hfl ht5 => ?_
  have fl12 : fs.length ≤ 12 := by omega
  have few := P.few
  -- the texts
  have lt : ∀ {y5 y6 y7 y8 y9 y10 y11 y12 : Option D} {M : Mem}, l5_law (mkDy G T 11) [some (.scr ns), some (.ref 0), some (.int (j : Nat)), some (.lst (ps.map D.str)), some (.lst (fs.map (LF.law ps))), y5, y6, y7, y8, y9, y10, y11, y12] M = .ok (.own (.lst ((fs.map fun f => f.text ps).map D.str))) M := fun {y5 y6 y7 y8 y9 y10 y11 y12 M} => by
    unfold l5_law
    simp! only [List.length_map]
    rw [lc_map (M := M) (g := gSeq (.lst (fs.map (LF.law ps)))) (tg := gN 8) (vs := [8]) (i := 8) fs (LF.law ps) (fun f => D.str (f.text ps)) rfl rfl (g_lst _) (by rw [sizeLine_eq]; omega) (fun y hy => by
      show (mA false (mCall 1 ((mkDy G T 11).call "_law_fact_text") (mConsA false (mVar 8) mNil))) [some (.scr ns), some (.ref 0), some (.int (j : Nat)), some (.lst (ps.map D.str)), some (.lst (fs.map (LF.law ps))), y5, y6, y7, some (y.law ps), y9, y10, y11, y12] M = _
      simp! only [sp_fact_text 9 P y (hfs y hy)]), ff_text]
    rfl
  have tok : ∀ f ∈ fs, sOk (f.text ps) := fun f hf => (text_ok P f (hfs f hf)).ok
  have lin : linesL (factsText ps fs) = fs.map fun f => f.text ps := lines_facts P hfs
  have lsok : ∀ y ∈ fs.map (fun f => f.text ps), sOk y := fun y hy => by
    obtain ⟨f, hf, rfl⟩ := List.mem_map.mp hy
    exact tok f hf
  have psok : ∀ y ∈ ps, sOk y := fun y hy => (P.wd y hy).ok
  have lslen : (fs.map fun f => f.text ps).length = fs.length := List.length_map ..
  have xwd := facts_len P hfs (by omega)
  generalize hx : factsText ps fs = x at lin xwd
  have hr : rdL ps 0 [] (linesL x) = .inr fs := by
    rw [lin]
    exact rdL_facts P (seen := []) hfs (fun _ z => (List.not_mem_nil z).elim) (by simpa using nd) (by omega)
  have ft : ∀ M, (mkDy G T 11).call "_law_facts_text" [.lst (fs.map (LF.law ps))] M = .ok (.val (.str x)) M := fun M => by rw [← hx]; exact sp_facts_text 8 P hfs (by omega)
  have cR : Clo (pen ns t5 l5 :: (R ++ [MO.lst (ps.map D.str)])) := (clo_pen2 hR : Clo (pen ns t5 l5 :: R)).add (show clO _ (.lst (ps.map D.str)) = true from clL_strs _ ps)
  have cR2 : Clo (pen ns t5 l5 :: (R ++ [MO.lst (ps.map D.str ++ [.str "other"])])) := (clo_pen2 hR : Clo (pen ns t5 l5 :: R)).add (show clO _ (.lst (ps.map D.str ++ [.str "other"])) = true from by
    have := clL_strs (List.length (pen ns t5 l5 :: R) + 1) (ps ++ [("other" : Str)])
    rw [List.map_append] at this
    exact this)
  have at1 : ∀ L, (pen ns t5 l5 :: (R ++ [MO.lst (ps.map D.str)]) ++ L)[R.length + 1]? = some (.lst (ps.map D.str)) := fun L => by
    rw [List.cons_append, List.getElem?_cons_succ, List.append_assoc, at_app0]
    rfl
  have at0 : (pen ns t5 l5 :: (R ++ [MO.lst (ps.map D.str)]))[R.length + 1]? = some (.lst (ps.map D.str)) := by rw [List.getElem?_cons_succ]; exact at_app0
  have bp := P.badP hne
  have lxl : (linesL x).length < sizeLine := by rw [lin, lslen]; exact sz_line (by omega)
  have c1 := sp_contract (M := pen ns t5 l5 :: (R ++ [MO.lst (ps.map D.str)])) 2 (d := .ref (R.length + 1)) (fun L => Sq.of_ref (at1 L)) P.wd (sz_line (by omega)) xwd lxl cR bp hr
  have c2 := sp_contract (M := pen ns t5 l5 :: (R ++ [MO.lst (ps.map D.str)])) 2 (d := .tup (ps.map D.str)) (fun L => Sq.of_tup) P.wd (sz_line (by omega)) xwd lxl cR bp hr
  have tr := tuple_ref at0
  have mk := fun e => meK_ref (e := e) (ms := mConsA false (mVal (.str "other")) mNil) appendS (ownG (mkDy G T 11) "append") "append" (R.length + 1) _ at0
  have ap := app_ref (d := .str "other") at0 (sz_line (by rw [List.length_map]; omega))
  rw [List.set_cons_succ, set_app0] at ap
  have n1 : ∀ M, cmpS .NotEq (.tup (ps.map D.str)) (.tup (ps.map D.str)) M = _ := fun M => ne_self (by unfold shD; exact sh_strs psok 63)
  have n2 : ∀ M, cmpS .NotEq (.tup ((fs.map fun f => f.text ps).map D.str)) (.tup ((fs.map fun f => f.text ps).map D.str)) M = _ := fun M => ne_self (by unfold shD; exact sh_strs lsok 63)
  have n3 : ∀ M, cmpS .NotEq (.lst ((fs.map fun f => f.text ps).map D.str)) (.lst ((fs.map fun f => f.text ps).map D.str)) M = _ := fun M => ne_self (by unfold shD; exact sh_strs lsok 63)
  have n4 : ∀ M, cmpS .NotEq (.str x) (.str x) M = _ := fun M => ne_self (by unfold shD; exact xwd.ok)
  have l4 : ∀ {y5 y6 y7 y8 y9 y10 y11 y12 : Option D} {M : Mem}, l4_law (mkDy G T 11) [some (.scr ns), some (.ref 0), some (.int (j : Nat)), some (.lst (ps.map D.str)), some (.lst (fs.map (LF.law ps))), y5, y6, y7, y8, y9, y10, y11, y12] M = .ok (.own (.lst ((fs.map LF.far).map D.int))) M := fun {y5 y6 y7 y8 y9 y10 y11 y12 M} => by
    unfold l4_law
    simp! only [List.length_map]
    rw [lc_map (M := M) (g := gSeq (.lst (fs.map (LF.law ps)))) (tg := gN 8) (vs := [8]) (i := 8) fs (LF.law ps) (fun f => D.int f.far) rfl rfl (g_lst _) (by rw [sizeLine_eq]; omega) (fun y hy => by
      show (mA false (mBlt intS (mConsA false (mCall 1 ((mkDy G T 11).call "_law_far_of") (mConsA false (mVar 8) mNil)) mNil))) [some (.scr ns), some (.ref 0), some (.int (j : Nat)), some (.lst (ps.map D.str)), some (.lst (fs.map (LF.law ps))), y5, y6, y7, some (y.law ps), y9, y10, y11, y12] M = _
      simp! only [sp_law_far 10 y (hfs y hy)]), List.map_map]
    rfl
  have ad : ∀ M, binS .Add (.lst [.int 0]) (.lst ((fs.map LF.far).map D.int)) M = _ := fun M => add_lst (by rw [List.length_map, List.length_map, sizeLine_eq]; simp; omega)
  have mx : ∀ M, maxS [.lst (.int 0 :: (fs.map LF.far).map D.int)] M = .ok (.val (.int (maxF 0 (fs.map LF.far)))) M := fun M => max_lst 0 (fs.map LF.far)
  have md : ∀ M, (mkDy G T 11).call "_law_modulus" [.lst (fs.map (LF.law ps))] M = _ := fun M => sp_law_modulus (M := M) 10 hfs
  have nu : ∀ i M, (mkDy G T 11).call "_law_number" [.int i] M = _ := fun i M => sp_number (M := M) 10 (i := i)
  have lc : ∀ M, lenO (ownG (mkDy G T 11) "__len__") [ctrV ps x fs] M = _ := fun M => len_con (M := M) (ps := ps) (x := x) (fs := fs) 10 (by rw [lin, lslen]; omega)
  have li : ∀ M, listO itG (ownG (mkDy G T 11) "__len__") [ctrV ps x fs] M = _ := fun M => list_con (M := M) (ps := ps) (x := x) (fs := fs) 10 (by rw [lin, lslen]; omega) (Nat.le_of_lt lxl)
  have l3 : ∀ {y3 y4 y5 y6 y7 y8 y10 y11 y12 : Option D} {M : Mem}, l3_law (mkDy G T 11) [some (.scr ns), some (.ref 0), some (.int (j : Nat)), y3, y4, y5, y6, y7, y8, some (ctrV ps x fs), y10, y11, y12] M = .ok (.own (.lst ((fs.map fun f => f.text ps).map D.str))) M := fun {y3 y4 y5 y6 y7 y8 y10 y11 y12 M} => by
    unfold l3_law
    simp! only [any_con, lin, List.length_map]
    rw [show fs.length = (fs.map fun f => f.text ps).length from lslen.symm, lc_map (M := M) (g := gSeq (.tup ((fs.map fun f => f.text ps).map D.str))) (tg := gN 10) (vs := [10]) (i := 10) (fs.map fun f => f.text ps) D.str D.str rfl rfl (g_tup _) (by rw [lslen, sizeLine_eq]; omega) (fun y hy => rfl)]
    rfl
  have rws : ∀ {y0 y1 y2 y3 y4 y6 y7 y8 y9 y10 y11 y12 : Option D} {M : Mem}, l2_law (mkDy G T 11) [y0, y1, y2, y3, y4, some (.lst ((fs.map fun f => f.text ps).map D.str)), y6, y7, y8, y9, y10, y11, y12] M = .ok (.own (.lst (((fs.map fun f => f.text ps).map fun a => (fs.map fun f => f.text ps).map fun b => D.tup [.str a, .str b]).map D.lst))) M := fun {y0 y1 y2 y3 y4 y6 y7 y8 y9 y10 y11 y12 M} => by
    unfold l2_law
    simp! only [List.length_map]
    rw [show fs.length = (fs.map fun f => f.text ps).length from lslen.symm, lc_map (M := M) (g := gSeq (.lst ((fs.map fun f => f.text ps).map D.str))) (tg := gN 12) (vs := [12]) (i := 12) (fs.map fun f => f.text ps) D.str (fun a => D.lst ((fs.map fun f => f.text ps).map fun b => D.tup [.str a, .str b])) rfl rfl (g_lst _) (by rw [lslen, sizeLine_eq]; omega) (fun a ha => by
      show (mA false (l1_law (mkDy G T 11))) [y0, y1, y2, y3, y4, some (.lst ((fs.map fun f => f.text ps).map D.str)), y6, y7, y8, y9, y10, y11, some (.str a)] M = _
      unfold l1_law
      simp! only [List.length_map]
      rw [show fs.length = (fs.map fun f => f.text ps).length from lslen.symm, lc_map (M := M) (g := gSeq (.lst ((fs.map fun f => f.text ps).map D.str))) (tg := gN 11) (vs := [11]) (i := 11) (fs.map fun f => f.text ps) D.str (fun b => D.tup [.str a, .str b]) rfl rfl (g_lst _) (by rw [lslen, sizeLine_eq]; omega) (fun b hb => rfl)]
      rfl)]
    rw [show (((fs.map fun f => f.text ps).map fun a => (fs.map fun f => f.text ps).map fun b => D.tup [.str a, .str b]).map D.lst) = (fs.map fun f => f.text ps).map fun a => D.lst ((fs.map fun f => f.text ps).map fun b => D.tup [.str a, .str b]) from by rw [List.map_map]; rfl]
    rfl
  have hfl2 : ((fs.map fun f => f.text ps).map fun a => (fs.map fun f => f.text ps).map fun b => D.tup [.str a, .str b]).flatten = prs (fs.map fun f => f.text ps) := by unfold prs; rw [List.flatMap_def]
  have sm : ∀ M, ∃ rv, sum2S [.lst (((fs.map fun f => f.text ps).map fun a => (fs.map fun f => f.text ps).map fun b => D.tup [.str a, .str b]).map D.lst), .lst []] M = .ok rv M ∧ rv.d = .lst (prs (fs.map fun f => f.text ps)) := fun M => by
    rw [← hfl2]
    refine sum_rows2 _ ?_
    have := prs_len (fs.map fun f => f.text ps) (fs.map fun f => f.text ps).length
    rw [List.take_length, List.flatMap_def, List.length_flatten, lslen] at this
    have h2 : fs.length * fs.length ≤ 12 * 12 := Nat.mul_le_mul fl12 fl12
    rw [sizeLine_eq]
    omega
  obtain ⟨rv, sm1, sm2⟩ := sm (pen ns t5 l5 :: (R ++ [MO.lst (ps.map D.str ++ [.str "other"])]))
  have pr : (mkDy G T 11).call "_law_pairs_of" [ctrV ps x fs] (pen ns t5 l5 :: (R ++ [MO.lst (ps.map D.str ++ [.str "other"])])) = _ := sp_pairs (M := pen ns t5 l5 :: (R ++ [MO.lst (ps.map D.str ++ [.str "other"])])) (ps := ps) (x := x) (fs := fs) 10 cR2 (by rw [lin, lslen]; exact fl12)
  rw [lin] at pr
  have n5 : ∀ M, cmpS .NotEq (.lst (prs (fs.map fun f => f.text ps))) (.lst (prs (fs.map fun f => f.text ps))) M = _ := fun M => ne_self (by
    unfold shD prs
    rw [List.flatMap_def]
    have : ∀ rows : List (List D), (∀ r ∈ rows, shL 63 r = true) → shL 63 rows.flatten = true := by
      intro rows
      induction rows with
      | nil => intro _; rw [List.flatten_nil, shL]
      | cons r rows ih =>
        intro h
        have ap : ∀ (a b : List D), shL 63 a = true → shL 63 b = true → shL 63 (a ++ b) = true := by
          intro a b
          induction a with
          | nil => intro _ h; exact h
          | cons x a ih =>
            intro h1 h2
            rw [shL, Bool.and_eq_true] at h1
            rw [List.cons_append, shL, h1.1, ih h1.2 h2]
            rfl
        rw [List.flatten_cons]
        exact ap _ _ (h r List.mem_cons_self) (ih fun r hr => h r (List.mem_cons_of_mem _ hr))
    refine this _ fun r hr => ?_
    obtain ⟨a, ha, rfl⟩ := List.mem_map.mp hr
    refine shL_mem _ fun b hb => ?_
    have sa : PyData.strOk a = true := lsok a ha
    have sb : PyData.strOk b = true := lsok b hb
    simp only [shD, shL, sa, sb, Bool.and_true])
  have md3 : (MO.d (conO ps x fs)) = ctrV ps x fs := rfl
  by_cases h2 : ((j : Nat) : Int) < 2
  · simp! only [lt, ft, as3', listO_lst, decide_eq_true h2, c1, md3, mk, ap, at_pointers, n1, at_lines, lin, n2, at_text, n4, isi_tup, at_far, l4, ad, mx, bb, nu, at_modulus, md, lc, lslen, List.length_map, l3, n3, li, pr, rws, sm1, sm2, n5, listO_lst]
    exact h _ t5 l5 _ _ _ _ _ _ _ _ _ _ cR2 (by omega)
  · simp! only [lt, ft, as3', listO_lst, decide_eq_false h2, tr, c2, md3, mk, ap, at_pointers, n1, at_lines, lin, n2, at_text, n4, isi_tup, at_far, l4, ad, mx, bb, nu, at_modulus, md, lc, lslen, List.length_map, l3, n3, li, pr, rws, sm1, sm2, n5]
    exact h _ t5 l5 _ _ _ _ _ _ _ _ _ _ cR2 (by omega)
end
theorem law_holds (ns : List Int) (hl : ns.length ≤ 63) : ∃ M, (mkDy G T 12).call "law" [.scr ns] [] = .ok (.val (.bl true)) M := by
  have key : Wp ((mkDy G T 12).call "law" [.scr ns] []) (fun a _ => a = .val (.bl true)) NoE := by
    rw [c_law 11, w_gcN]
    unfold m_law b6_law
    simp! only [sp_begun 10 hl, rng_ok (show (0 : Int) ≤ 3 by decide) (by decide)]
    refine ws_forL (N := 3) (I := fun j e M' => j ≤ 3 ∧ ∃ (R : Mem) (t l : Int) (x2 x3 x4 x5 x6 x7 x8 x9 x10 x11 x12 : Option D), Clo (pen ns t l :: R) ∧ (0 ≤ t ∧ t ≤ 2000 * j) ∧ M' = pen ns t l :: R ∧ e = [some (.scr ns), some (.ref 0), x2, x3, x4, x5, x6, x7, x8, x9, x10, x11, x12]) (fun j e M' hj ⟨_, R, t, l, x2, x3, x4, x5, x6, x7, x8, x9, x10, x11, x12, hR, ht, hM, he⟩ => ?_) (fun e M' ⟨_, R, t, l, x2, x3, x4, x5, x6, x7, x8, x9, x10, x11, x12, hR, ht, hM, he⟩ => ?_) 3 0 _ _ rfl ⟨by decide, [], 0, 0, none, none, none, none, none, none, none, none, none, none, none, rfl_clo ns, by omega, rfl, rfl⟩
    · subst hM he
      refine ⟨_, [(2, .int (j : Nat))], g_rng hj, rfl, ?_⟩
      simp! only [as1]
      exact w_turn hj hR (by omega) fun R' t' l' y3 y4 y5 y6 y7 y8 y9 y10 y11 y12 hR' ht' => ⟨hj, R', t', l', _, y3, y4, y5, y6, y7, y8, y9, y10, y11, y12, hR', by omega, rfl, rfl⟩
    · subst hM he
      refine ⟨g_rngE, ?_⟩
      show Wp (gcR 0 (.ok (.val (.bl true)) (pen ns t l :: R))) _ _
      unfold gcR
      dsimp only
      rw [List.take_zero, if_pos (by rfl), if_pos (by rfl)]
      rfl
  obtain ⟨a, M, h, rfl⟩ := key.ok
  exact ⟨M, h⟩

end Pc

set_option Elab.async false
set_option linter.all false
set_option maxRecDepth 100000
set_option maxHeartbeats 0
set_option autoImplicit false
namespace Pc
open PySem PySem.Spec PyProof.Rows L2
abbrev hR : PySem.W.OpenRow := PySem.W.OpenLaw.row PySem.Challenge.rw_partlymet_k01_contracts_read
def ex (K : PySem.W.Frag) : Bool := G.con.all (conB K) && xB hR.prog G K
def fns : List He.DefD := T.map FDef.defD
abbrev hk : PySem.W.Hook := hookP 4 (faOf G) fns ex
def ob (s : PySem.W.SharedT) : He.AlD × Bool := obsP 4 (faOf G) fns ex (HandSHeadRun.getT s)
theorem ob_eq (s : PySem.W.SharedT) : ob s = hk.obs s.abs := obsP_eq (HandSHeadRun.getT_eq s)
theorem tab_ok : tabOk G T = true := by kernel_rfl
theorem run (w : World) : HandSHeadRun.RunEq hR (PySem.W.view hR.prog [61]) hk ob 12000 nms w := by
  intro os
  kernel_rfl
end Pc

set_option Elab.async false
set_option linter.all false
set_option maxRecDepth 100000
set_option maxHeartbeats 0
set_option autoImplicit false
namespace Pc
open PySem PySem.Spec PyProof.Rows L2
theorem law_in : G.fnA.lookup ("law" : Str) = some 1 := by kernel_rfl
theorem law_at : T.fn ("law" : Str) = some f_law := by kernel_rfl
end Pc
open PySem PySem.W PySem.Calls PyProof.Rows
theorem Pc.holds (hlaw : ∀ ns : List Int, ns.length ≤ 63 → ∃ M, (Pc.mkDy Pc.G Pc.T 12).call "law" [.scr ns] [] = .ok (.val (.bl true)) M) : PySem.Challenge.rw_partlymet_k01_contracts_read.Holds := by
  w_on; o_law
  refine HandSHeadRun.head_any (r := OpenLaw.row PySem.Challenge.rw_partlymet_k01_contracts_read) (q := view (OpenLaw.row PySem.Challenge.rw_partlymet_k01_contracts_read).prog [61]) (H := Pc.hk) (ob := Pc.ob) (M := 12000) (loose := Pc.nms) (d := HandSHeadRun.topDef (OpenLaw.row PySem.Challenge.rw_partlymet_k01_contracts_read).prog 61) (kwd := []) Pc.ob_eq
    (by kernel_rfl) (fun s => by kernel_rfl) Pc.run (by kernel_rfl) (by kernel_rfl) (by kernel_rfl) (by rfl) (by first | assumption | decide +kernel) (by decide +kernel) ⟨rfl, rfl, rfl, rfl, rfl, by decide +kernel⟩ ?hw ?hc
  case hw => w_witness2
  case hc =>
    refine Pc.walk_G (l := PySem.Challenge.rw_partlymet_k01_contracts_read) (n := 63) (k := 24) (x := "script") (CX := Pc.CXA (PySem.Challenge.rw_partlymet_k01_contracts_read).prog) rfl (by decide) (by kernel_rfl) ⟨rfl, by decide, by decide⟩ ?F Pc.cxa_none
    intro w mg fa h Y N hmg0
    obtain ⟨K, KX, c, c2⟩ := Y
    have hmg : mg ("law" : PySem.Str) = some (.ref fa) := by
      have e : (HandSHeadRun.topDef (OpenLaw.row PySem.Challenge.rw_partlymet_k01_contracts_read).prog 61).name = ("law" : PySem.Str) := by kernel_rfl
      rw [← e]
      exact hmg0
    have c2 : (Pc.G.con.all (Pc.conB K) && Pc.xB Pc.hR.prog Pc.G K) = true := c2
    rw [Bool.and_eq_true] at c2
    obtain ⟨fd, sp, h1, h2, h3⟩ := Pc.law_facts (n := 11) (x := "script") (P := (PySem.Challenge.rw_partlymet_k01_contracts_read).prog) (w := w) Pc.tab_ok Pc.law_in Pc.law_at (by kernel_rfl) hlaw KX N hmg c c2.1 c2.2
    exact ⟨K, fd, sp, KX, h1, h2, h3⟩

set_option maxRecDepth 100000 in
set_option maxHeartbeats 0 in
theorem PySem.Challenge.cw_partlymet_k01_contracts_read_holds : PySem.Challenge.rw_partlymet_k01_contracts_read.Holds := by
  exact Pc.holds Pc.law_holds
