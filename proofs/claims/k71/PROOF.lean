import PyProof.Rows.All
import Wide.All
import OpenK.AllK
import Wide.FinOn
import HandS.ForMost
import HandS.Exc
import HandS.HeadHook2
import HandS.ExcInit
import HandS.Deep
import HandS.TupAny
import HandS.Wide
import HandS.Flow
import HandS.FStr
import HandS.Star
import HandS.Conv
import HandS.RaiseMore
import PyProof.SameEqv
import HandS.SortInts
import PyProof.ReprRoads
import PyProof.CallFns
import HandS.Style
import KE.KExcSuper
import KE.KSuper
import HandS.Nested
import HandS.ExcField
import HandS.IsInst
import HandS.ExcIs
import KE.KExcIs
import HandS.Zip
import HandS.HeadHook4
import HandS.HeadEnd
import PyProof.Rows.StrDigitsNeg
import PySem.Challenge.RW_partlymet_k71_errors
import HandS.Codes
import PyProof.ReprLen
import KE.KStateDown
import HandS.Head0
import HandS.Head1
import HandS.Head2
import HandS.More
import HandS.Words
import HandS.WordsExc
set_option Elab.async false
set_option linter.all false
set_option maxRecDepth 100000
set_option maxHeartbeats 1000000
set_option autoImplicit false
/-! Pc0: values by value, small memory, the relation to the abstract heap -/
namespace Pc
open PySem PySem.Spec PyProof.Rows L2

abbrev St := L2.St
inductive D where
  | non | bl (b : Bool) | int (i : Int) | str (x : Str)
  | tup (xs : List D) | lst (xs : List D)
  | ctup (xs : List D)
  | ref (i : Nat)
  | obj (c : Str) (ns : List Str) (ds : List D)
  | dic (ks : List Key) (ds : List D)
  | dit (ks : List (List Key)) (ds : List D)
  | scr (ns : List Int)
  | fn (x : Str)
  | exo (c : Str) (ns : List Str) (ds : List D)
  deriving Inhabited

inductive MO where
  | lst (xs : List D)
  | dk (ks : List Key) (ds : List D)
  | dt (ks : List (List Key)) (ds : List D)
  | ins (c : Str) (ns : List Str) (ds : List D)
  deriving Inhabited

abbrev Mem := List MO
abbrev Sl := List (Option D)

inductive RV where
  | val (d : D) | own (o : MO)

def MO.d : MO → D
  | .lst xs => .lst xs
  | .dk ks ds => .dic ks ds
  | .dt ks ds => .dit ks ds
  | .ins c ns ds => .obj c ns ds
def RV.d : RV → D
  | .val d => d
  | .own o => o.d

inductive R (α : Type) where
  | ok (a : α) (M : Mem)
  | exc (c : Str) (ns : List Str) (ds : List D) (M : Mem)
  | stuck

def R.bind {α β : Type} : R α → (α → Mem → R β) → R β
  | .ok a M, f => f a M
  | .exc c ns ds M, _ => .exc c ns ds M
  | .stuck, _ => .stuck
def R.map {α β : Type} (f : α → β) : R α → R β
  | .ok a M => .ok (f a) M
  | .exc c ns ds M => .exc c ns ds M
  | .stuck => .stuck

/-- a meaning of an expression -/
abbrev ME := Sl → Mem → R RV
abbrev MD := Sl → Mem → R D
abbrev MDs := Sl → Mem → R (List D)
def mD (m : ME) : MD := fun env M => (m env M).map RV.d

/-- the dict of an exception object -/
def ExD (F : Hp) : Option Addr → List (Str × V) → Prop
  | none, fvs => fvs = []
  | some d, fvs => F d = some (exd d fvs)
section
variable (K : PySem.W.Frag)
mutual
def Rel (F : Hp) (io : List Addr) : D → V → Prop
  | .non, v => v = .non
  | .bl b, v => v = .bl b
  | .int i, v => v = .int i
  | .str x, v => v = .str x
  | .tup xs, v => ∃ a vs, v = .ref a ∧ F a = some (.tup vs) ∧ RelL F io xs vs
  | .ctup xs, v => ∃ a vs, v = .ref a ∧ SqT K F a vs ∧ RelL F io xs vs
  | .lst xs, v => ∃ a vs, v = .ref a ∧ F a = some (.lst vs) ∧ RelL F io xs vs
  | .ref i, v => ∃ a, v = .ref a ∧ io[i]? = some a
  | .obj c ns ds, v => ∃ a dx fvs, v = .ref a ∧ F a = some (.ins (He.ga K c) dx fvs) ∧ fvs.map (·.1) = ns ∧ RelL F io ds (fvs.map (·.2))
  | .dic ks ds, v => ∃ a kvs, v = .ref a ∧ F a = some (.dK kvs) ∧ kvs.map (·.1) = ks ∧ RelL F io ds (kvs.map (·.2))
  | .dit ks ds, v => ∃ a kvs, v = .ref a ∧ F a = some (.dT kvs) ∧ kvs.map (·.1) = ks ∧ RelL F io ds (kvs.map (·.2))
  | .scr ns, v => ∃ a, v = .ref a ∧ SqL K F a (ns.map V.int)
  | .fn x, v => v = .ref (He.ga K x)
  | .exo c ns ds, v => ∃ a od fvs, v = .ref a ∧ F a = some (exo a (He.ga K c) od) ∧ ExD F od fvs ∧ fvs.map (·.1) = ns ∧ RelL F io ds (fvs.map (·.2))
def RelL (F : Hp) (io : List Addr) : List D → List V → Prop
  | [], vs => vs = []
  | d :: ds, vs => ∃ v r, vs = v :: r ∧ Rel F io d v ∧ RelL F io ds r
end
end

def MR (K : PySem.W.Frag) (F : Hp) (io : List Addr) (H : Hp) (a : Addr) : MO → Prop
  | .lst xs => ∃ vs, H a = some (.lst vs) ∧ RelL K F io xs vs
  | .dk ks ds => ∃ kvs, H a = some (.dK kvs) ∧ kvs.map (·.1) = ks ∧ RelL K F io ds (kvs.map (·.2))
  | .dt ks ds => ∃ kvs, H a = some (.dT kvs) ∧ kvs.map (·.1) = ks ∧ RelL K F io ds (kvs.map (·.2))
  | .ins c ns ds => ∃ dx fvs, H a = some (.ins (He.ga K c) dx fvs) ∧ fvs.map (·.1) = ns ∧ RelL K F io ds (fvs.map (·.2))

structure HA (K : PySem.W.Frag) (F : Hp) (io : List Addr) (H : Hp) (M : Mem) : Prop where
  sub : Same F H
  len : io.length = M.length
  nd : io.Nodup
  at_ : ∀ (i : Nat) (o : MO), M[i]? = some o → ∃ a, io[i]? = some a ∧ F a = none ∧ MR K F io H a o

def ER (K : PySem.W.Frag) (F : Hp) (io : List Addr) (σ : St) (env : Sl) : Prop :=
  env.length = σ.length ∧ ∀ (i : Nat) (d : D), env[i]? = some (some d) → ∃ v, σ[i]? = some (some v) ∧ Rel K F io d v

structure Ex (F : Hp) (io : List Addr) (H F' : Hp) (io' : List Addr) (H' : Hp) : Prop where
  sub : Same F F'
  ids : ∀ (i : Nat) (a : Addr), io[i]? = some a → io'[i]? = some a
  frame : ∀ b o, H b = some o → b ∉ io → H' b = some o
  newF : ∀ b o, F' b = some o → F b = some o ∨ H b = none
  newI : ∀ b, b ∈ io' → b ∈ io ∨ H b = none
  there : ∀ b, H b ≠ none → H' b ≠ none

/-! ### monotone -/
section
variable {K : PySem.W.Frag} {F F' F'' H H' H'' : Hp} {io io' io'' : List Addr} {M M' : Mem}
theorem SqT.mono {a : Addr} {xs : List V} (s : Same F F') (h : SqT K F a xs) : SqT K F' a xs := by
  rcases h with (h | ⟨o, h⟩) | h
  · exact .inl (.inl (s _ _ h))
  · exact .inl (.inr ⟨o, s _ _ h⟩)
  · exact .inr h
theorem ExD.mono {od : Option Addr} {fvs : List (Str × V)} (s : Same F F') (h : ExD F od fvs) : ExD F' od fvs := by
  cases od with
  | none => exact h
  | some d => exact s _ _ h
mutual
theorem Rel.mono (s : Same F F') (hi : ∀ (i : Nat) (a : Addr), io[i]? = some a → io'[i]? = some a) : ∀ (d : D) (v : V), Rel K F io d v → Rel K F' io' d v
  | .non, _, h => h
  | .bl _, _, h => h
  | .int _, _, h => h
  | .str _, _, h => h
  | .tup xs, _, h => by
    obtain ⟨a, vs, e, q, r⟩ := (show ∃ a vs, _ = V.ref a ∧ F a = some (.tup vs) ∧ RelL K F io xs vs from h)
    exact ⟨a, vs, e, s _ _ q, RelL.mono s hi xs vs r⟩
  | .ctup xs, _, h => by
    obtain ⟨a, vs, e, q, r⟩ := (show ∃ a vs, _ = V.ref a ∧ SqT K F a vs ∧ RelL K F io xs vs from h)
    exact ⟨a, vs, e, SqT.mono s q, RelL.mono s hi xs vs r⟩
  | .lst xs, _, h => by
    obtain ⟨a, vs, e, q, r⟩ := (show ∃ a vs, _ = V.ref a ∧ F a = some (.lst vs) ∧ RelL K F io xs vs from h)
    exact ⟨a, vs, e, s _ _ q, RelL.mono s hi xs vs r⟩
  | .ref i, _, h => by
    obtain ⟨a, e, q⟩ := (show ∃ a, _ = V.ref a ∧ io[i]? = some a from h)
    exact ⟨a, e, hi _ _ q⟩
  | .obj c ns ds, _, h => by
    obtain ⟨a, dx, fvs, e, q, n, r⟩ := (show ∃ a dx fvs, _ = V.ref a ∧ F a = some (.ins (He.ga K c) dx fvs) ∧ fvs.map (·.1) = ns ∧ RelL K F io ds (fvs.map (·.2)) from h)
    exact ⟨a, dx, fvs, e, s _ _ q, n, RelL.mono s hi ds _ r⟩
  | .dic ks ds, _, h => by
    obtain ⟨a, kvs, e, q, n, r⟩ := (show ∃ a kvs, _ = V.ref a ∧ F a = some (.dK kvs) ∧ kvs.map (·.1) = ks ∧ RelL K F io ds (kvs.map (·.2)) from h)
    exact ⟨a, kvs, e, s _ _ q, n, RelL.mono s hi ds _ r⟩
  | .dit ks ds, _, h => by
    obtain ⟨a, kvs, e, q, n, r⟩ := (show ∃ a kvs, _ = V.ref a ∧ F a = some (.dT kvs) ∧ kvs.map (·.1) = ks ∧ RelL K F io ds (kvs.map (·.2)) from h)
    exact ⟨a, kvs, e, s _ _ q, n, RelL.mono s hi ds _ r⟩
  | .scr ns, _, h => by
    obtain ⟨a, e, q⟩ := (show ∃ a, _ = V.ref a ∧ SqL K F a (ns.map V.int) from h)
    exact ⟨a, e, Same.seq s q⟩
  | .fn _, _, h => h
  | .exo c ns ds, _, h => by
    obtain ⟨a, od, fvs, e, q, x, n, r⟩ := (show ∃ a od fvs, _ = V.ref a ∧ F a = some (exo a (He.ga K c) od) ∧ ExD F od fvs ∧ fvs.map (·.1) = ns ∧ RelL K F io ds (fvs.map (·.2)) from h)
    exact ⟨a, od, fvs, e, s _ _ q, x.mono s, n, RelL.mono s hi ds _ r⟩
theorem RelL.mono (s : Same F F') (hi : ∀ (i : Nat) (a : Addr), io[i]? = some a → io'[i]? = some a) : ∀ (ds : List D) (vs : List V), RelL K F io ds vs → RelL K F' io' ds vs
  | [], _, h => h
  | d :: ds, _, h => by
    obtain ⟨v, r, e, h1, h2⟩ := (show ∃ v r, _ = v :: r ∧ Rel K F io d v ∧ RelL K F io ds r from h)
    exact ⟨v, r, e, Rel.mono s hi d v h1, RelL.mono s hi ds r h2⟩
end
theorem MR.mono {a : Addr} {o : MO} (s : Same F F') (hi : ∀ (i : Nat) (a : Addr), io[i]? = some a → io'[i]? = some a) (e : H' a = H a) (h : MR K F io H a o) : MR K F' io' H' a o := by
  cases o with
  | lst xs => obtain ⟨vs, q, r⟩ := h; exact ⟨vs, e.trans q, RelL.mono s hi _ _ r⟩
  | dk ks ds => obtain ⟨vs, q, n, r⟩ := h; exact ⟨vs, e.trans q, n, RelL.mono s hi _ _ r⟩
  | dt ks ds => obtain ⟨vs, q, n, r⟩ := h; exact ⟨vs, e.trans q, n, RelL.mono s hi _ _ r⟩
  | ins c ns ds => obtain ⟨dx, vs, q, n, r⟩ := h; exact ⟨dx, vs, e.trans q, n, RelL.mono s hi _ _ r⟩
theorem MR.there {a : Addr} {o : MO} (h : MR K F io H a o) : H a ≠ none := by
  cases o with
  | lst xs => obtain ⟨vs, q, r⟩ := h; rw [q]; exact fun z => nomatch z
  | dk ks ds => obtain ⟨vs, q, n, r⟩ := h; rw [q]; exact fun z => nomatch z
  | dt ks ds => obtain ⟨vs, q, n, r⟩ := h; rw [q]; exact fun z => nomatch z
  | ins c ns ds => obtain ⟨dx, vs, q, n, r⟩ := h; rw [q]; exact fun z => nomatch z
theorem ER.mono {σ : St} {env : Sl} (s : Same F F') (hi : ∀ (i : Nat) (a : Addr), io[i]? = some a → io'[i]? = some a) (h : ER K F io σ env) : ER K F' io' σ env :=
  ⟨h.1, fun i d e => by obtain ⟨v, q, r⟩ := h.2 i d e; exact ⟨v, q, Rel.mono s hi d v r⟩⟩
theorem Ex.refl : Ex F io H F io H := ⟨Same.refl _, fun _ _ h => h, fun _ _ h _ => h, fun _ _ h => .inl h, fun _ h => .inl h, fun _ h => h⟩
theorem Ex.trans (a : Ex F io H F' io' H') (b : Ex F' io' H' F'' io'' H'') : Ex F io H F'' io'' H'' where
  sub := a.sub.trans b.sub
  ids := fun i x h => b.ids i x (a.ids i x h)
  frame := fun x o h n => b.frame x o (a.frame x o h n) (fun z => (a.newI x z).elim n fun q => by rw [q] at h; cases h)
  newF := fun x o h => (b.newF x o h).elim (fun q => a.newF x o q) fun q => by
    by_cases z : H x = none
    · exact .inr z
    · exact absurd q (a.there x z)
  newI := fun x h => (b.newI x h).elim (fun q => a.newI x q) fun q => by
    by_cases z : H x = none
    · exact .inr z
    · exact absurd q (a.there x z)
  there := fun x h => b.there x (a.there x h)
theorem Ex.back {b : Addr} (a : Ex F io H F' io' H') (h : H' b = none) : H b = none := by
  by_cases z : H b = none
  · exact z
  · exact absurd h (a.there b z)
/-- what is tracked at an unnamed place may be frozen -/
theorem HA.freeze {a : Addr} {o : HO} (h : HA K F io H M) (hH : H a = some o) (hi : a ∉ io) : HA K (upd F a o) io H M ∧ Same F (upd F a o) := by
  have s : Same F (upd F a o) := fun b u e => by
    by_cases q : b = a
    · subst q; rw [upd_same]; rw [h.sub b u e] at hH; exact hH.symm
    · rw [upd_ne q]; exact e
  refine ⟨⟨fun b u e => ?_, h.len, h.nd, fun i u e => ?_⟩, s⟩
  · by_cases q : b = a
    · subst q; rw [upd_same] at e; rw [hH]; exact e
    · rw [upd_ne q] at e; exact h.sub b u e
  · obtain ⟨c, e1, e2, e3⟩ := h.at_ i u e
    refine ⟨c, e1, ?_, e3.mono s (fun _ _ z => z) rfl⟩
    have hc : c ≠ a := fun q => by rw [q] at e1; exact hi (List.mem_of_getElem? e1)
    rw [upd_ne hc]
    exact e2
/-- a new object is laid at a free place, and frozen or left alone -/
theorem HA.new {a : Addr} {o : HO} (h : HA K F io H M) (hH : H a = none) : HA K F io (upd H a o) M := by
  have hn : ∀ b u, H b = some u → upd H a o b = some u := fun b u e => by rw [upd_ne (ne_of_none e hH)]; exact e
  refine ⟨fun b u e => hn b u (h.sub b u e), h.len, h.nd, fun i u e => ?_⟩
  obtain ⟨c, e1, e2, e3⟩ := h.at_ i u e
  refine ⟨c, e1, e2, e3.mono (Same.refl _) (fun _ _ z => z) ?_⟩
  have := e3.there
  rw [upd_ne]
  rintro rfl
  exact this hH
theorem Ex.new {a : Addr} {o : HO} (h : HA K F io H M) (hH : H a = none) : Ex F io H F io (upd H a o) := by
  refine ⟨Same.refl _, fun _ _ z => z, fun b u e _ => by rw [upd_ne (ne_of_none e hH)]; exact e, fun _ _ z => .inl z, fun _ z => .inl z, fun b e => ?_⟩
  by_cases q : b = a
  · subst q; rw [upd_same]; exact fun z => nomatch z
  · rw [upd_ne q]; exact e
theorem HA.notin {a : Addr} (h : HA K F io H M) (hH : H a = none) : a ∉ io := fun z => by
  obtain ⟨i, hi, e⟩ := List.mem_iff_getElem.mp z
  have hm : i < M.length := by rw [← h.len]; exact hi
  obtain ⟨c, e1, e2, e3⟩ := h.at_ i M[i] (List.getElem?_eq_getElem hm)
  have : c = a := by
    rw [List.getElem?_eq_getElem hi, e] at e1
    exact (Option.some.inj e1).symm
  subst this
  exact e3.there hH
end

/-! ### ends -/
abbrev XKs := WX
/-- how a result stands -/
def RR (K : PySem.W.Frag) (F' : Hp) (io' : List Addr) (H H' : Hp) : RV → V → Prop
  | .val d, v => Rel K F' io' d v
  | .own o, v => ∃ a, v = .ref a ∧ H a = none ∧ F' a = none ∧ a ∉ io' ∧ MR K F' io' H' a o
/-- an exception that is wanted -/
def ExcAt (K : PySem.W.Frag) (F' : Hp) (io' : List Addr) (H H' : Hp) (ns : List Str) (ds : List D) (dd : Addr) : Prop :=
  ∃ fvs, H' dd = some (.xd fvs) ∧ fvs.map (·.1) = ns ∧ RelL K F' io' ds (fvs.map (·.2)) ∧ H dd = none
def PostE (K : PySem.W.Frag) (W : WX) (F : Hp) (io : List Addr) (H : Hp) (σ : St) (Q : VK) : R RV → Prop
  | .ok rv M' => ∀ F' io' H' v, HA K F' io' H' M' → Ex F io H F' io' H' → RR K F' io' H H' rv v → Q v H'
  | .exc c ns ds M' => ∀ F' io' H' dd, HA K F' io' H' M' → Ex F io H F' io' H' → ExcAt K F' io' H H' ns ds dd → W (.ref (He.ga K c)) (some dd) σ H'
  | .stuck => False
def PostD (K : PySem.W.Frag) (W : WX) (F : Hp) (io : List Addr) (H : Hp) (σ : St) (Q : VK) : R D → Prop
  | .ok d M' => ∀ F' io' H' v, HA K F' io' H' M' → Ex F io H F' io' H' → Rel K F' io' d v → Q v H'
  | .exc c ns ds M' => ∀ F' io' H' dd, HA K F' io' H' M' → Ex F io H F' io' H' → ExcAt K F' io' H H' ns ds dd → W (.ref (He.ga K c)) (some dd) σ H'
  | .stuck => False
def PostDs (K : PySem.W.Frag) (W : WX) (F : Hp) (io : List Addr) (H : Hp) (σ : St) (Q : List V → Hp → Prop) : R (List D) → Prop
  | .ok ds M' => ∀ F' io' H' vs, HA K F' io' H' M' → Ex F io H F' io' H' → RelL K F' io' ds vs → Q vs H'
  | .exc c ns ds M' => ∀ F' io' H' dd, HA K F' io' H' M' → Ex F io H F' io' H' → ExcAt K F' io' H H' ns ds dd → W (.ref (He.ga K c)) (some dd) σ H'
  | .stuck => False
def tE (K : PySem.W.Frag) (W : WX) (m : ME) : TE := fun σ H Q => ∃ F io env M, HA K F io H M ∧ ER K F io σ env ∧ PostE K W F io H σ Q (m env M)
def tD (K : PySem.W.Frag) (W : WX) (m : MD) : TE := fun σ H Q => ∃ F io env M, HA K F io H M ∧ ER K F io σ env ∧ PostD K W F io H σ Q (m env M)
def tDs (K : PySem.W.Frag) (W : WX) (m : MDs) : TA := fun σ H Q => ∃ F io env M, HA K F io H M ∧ ER K F io σ env ∧ PostDs K W F io H σ Q (m env M)

section
variable {X : Cx} {e : Expr} {es : List Expr}
theorem PE.imp' {t t' : TE} (h : PE X e t) (i : ∀ σ H Q, t' σ H Q → t σ H Q) : PE X e t' := ⟨fun pins s σ H Q I hw => h.run pins s σ H Q I (i σ H Q hw)⟩
theorem PT.imp' {t t' : TT} (h : PT X e t) (i : ∀ σ H Q, t' σ H Q → t σ H Q) : PT X e t' := ⟨fun pins s σ H Q I hw => h.run pins s σ H Q I (i σ H Q hw)⟩
theorem PA.imp' {t t' : TA} (h : PA X es t) (i : ∀ σ H Q, t' σ H Q → t σ H Q) : PA X es t' := ⟨fun p pins s σ H Q I hw => h.run p pins s σ H Q I (i σ H Q hw)⟩
theorem PS.imp' {st : Stmt} {t t' : TS} (h : PS X st t) (i : ∀ D σ H, t' D σ H → t D σ H) : PS X st t' := ⟨fun pins s σ H D I hw => h.run pins s σ H D I (i D σ H hw)⟩
theorem PSs.imp' {st : List Stmt} {t t' : TS} (h : PSs X st t) (i : ∀ D σ H, t' D σ H → t D σ H) : PSs X st t' := ⟨fun pins s σ H D I hw => h.run pins s σ H D I (i D σ H hw)⟩
end

section
variable {K : PySem.W.Frag} {W : WX} {F H F1 H1 : Hp} {io io1 : List Addr} {σ : St} {M : Mem}
theorem ExcAt.from_ {F' H' : Hp} {io' : List Addr} {ns : List Str} {ds : List D} {dd : Addr} (x : Ex F io H F1 io1 H1) (h : ExcAt K F' io' H1 H' ns ds dd) : ExcAt K F' io' H H' ns ds dd := by
  obtain ⟨fvs, h1, h2, h3, h4⟩ := h
  exact ⟨fvs, h1, h2, h3, x.back h4⟩
theorem RR.from_ {F' H' : Hp} {io' : List Addr} {rv : RV} {v : V} (x : Ex F io H F1 io1 H1) (h : RR K F' io' H1 H' rv v) : RR K F' io' H H' rv v := by
  cases rv with
  | val d => exact h
  | own o => obtain ⟨a, e, n, h⟩ := h; exact ⟨a, e, x.back n, h⟩
/-- the end, seen from a later state -/
theorem PostE.from_ {Q : VK} {r : R RV} (x : Ex F io H F1 io1 H1) (h : PostE K W F io H σ Q r) : PostE K W F1 io1 H1 σ Q r := by
  cases r with
  | ok rv M' => exact fun F' io' H' v a b c => h F' io' H' v a (x.trans b) (c.from_ x)
  | exc c ns ds M' => exact fun F' io' H' dd a b c => h F' io' H' dd a (x.trans b) (c.from_ x)
  | stuck => exact h
theorem PostD.from_ {Q : VK} {r : R D} (x : Ex F io H F1 io1 H1) (h : PostD K W F io H σ Q r) : PostD K W F1 io1 H1 σ Q r := by
  cases r with
  | ok rv M' => exact fun F' io' H' v a b c => h F' io' H' v a (x.trans b) c
  | exc c ns ds M' => exact fun F' io' H' dd a b c => h F' io' H' dd a (x.trans b) (c.from_ x)
  | stuck => exact h
theorem PostDs.from_ {Q : List V → Hp → Prop} {r : R (List D)} (x : Ex F io H F1 io1 H1) (h : PostDs K W F io H σ Q r) : PostDs K W F1 io1 H1 σ Q r := by
  cases r with
  | ok rv M' => exact fun F' io' H' v a b c => h F' io' H' v a (x.trans b) c
  | exc c ns ds M' => exact fun F' io' H' dd a b c => h F' io' H' dd a (x.trans b) (c.from_ x)
  | stuck => exact h
theorem PostE.mono {Q Q' : VK} {r : R RV} (h : PostE K W F io H σ Q r) (hq : ∀ v H', Q v H' → Q' v H') : PostE K W F io H σ Q' r := by
  cases r with
  | ok rv M' => exact fun F' io' H' v a b c => hq _ _ (h F' io' H' v a b c)
  | exc c ns ds M' => exact h
  | stuck => exact h
/-- freezing -/
theorem tE_of_tD {m : ME} {H : Hp} {Q : VK} (h : tD K W (mD m) σ H Q) : tE K W m σ H Q := by
  obtain ⟨F, io, env, M, ha, er, p⟩ := h
  refine ⟨F, io, env, M, ha, er, ?_⟩
  unfold mD at p
  cases r : m env M with
  | stuck => rw [r] at p; exact p
  | exc c ns ds M' => rw [r] at p; exact p
  | ok rv M' =>
    rw [r] at p
    intro F' io' H' v a b c
    cases rv with
    | val d => exact p F' io' H' v a b c
    | own o =>
      obtain ⟨l, e, n, nf, ni, mr⟩ := c
      subst e
      have fin : ∀ u, H' l = some u → Rel K (upd F' l u) io' o.d (.ref l) → Q (.ref l) H' := fun u hu rl => by
        obtain ⟨a', s'⟩ := a.freeze hu ni
        refine p (upd F' l u) io' H' _ a' ⟨b.sub.trans s', b.ids, b.frame, fun x y z => ?_, b.newI, b.there⟩ rl
        by_cases q : x = l
        · subst q; exact .inr n
        · rw [upd_ne q] at z; exact b.newF x y z
      have sm : ∀ u, H' l = some u → Same F' (upd F' l u) := fun u hu => (a.freeze hu ni).2
      cases o with
      | lst xs => obtain ⟨vs, q, r⟩ := mr; exact fin _ q ⟨l, vs, rfl, upd_same, RelL.mono (sm _ q) (fun _ _ z => z) _ _ r⟩
      | dk ks ds => obtain ⟨vs, q, nn, r⟩ := mr; exact fin _ q ⟨l, vs, rfl, upd_same, nn, RelL.mono (sm _ q) (fun _ _ z => z) _ _ r⟩
      | dt ks ds => obtain ⟨vs, q, nn, r⟩ := mr; exact fin _ q ⟨l, vs, rfl, upd_same, nn, RelL.mono (sm _ q) (fun _ _ z => z) _ _ r⟩
      | ins c ns ds => obtain ⟨dx, vs, q, nn, r⟩ := mr; exact fin _ q ⟨l, dx, vs, rfl, upd_same, nn, RelL.mono (sm _ q) (fun _ _ z => z) _ _ r⟩
theorem pe_d {X : Cx} {e : Expr} {m : ME} (h : PE X e (tE K W m)) : PE X e (tD K W (mD m)) := PE.imp' h fun _ _ _ => tE_of_tD
/-- a value read, then something else -/
theorem tD_bind {m : MD} {k : D → Mem → R RV} {Q : VK} {H : Hp} {r : V → Hp → Prop} (h : tE K W (fun env M => (m env M).bind k) σ H Q)
    (hr : ∀ d M1 F1 io1 H1 x env, HA K F1 io1 H1 M1 → ER K F1 io1 σ env → Rel K F1 io1 d x → PostE K W F1 io1 H1 σ Q (k d M1) → r x H1) : tD K W m σ H r := by
  obtain ⟨F, io, env, M, ha, er, p⟩ := h
  refine ⟨F, io, env, M, ha, er, ?_⟩
  dsimp only at p
  cases q : m env M with
  | stuck => rw [q] at p; exact p
  | exc c ns ds M' => rw [q] at p; exact p
  | ok d M1 =>
    rw [q] at p
    intro F1 io1 H1 x a b c
    exact hr d M1 F1 io1 H1 x env a (er.mono b.sub b.ids) c (PostE.from_ b p)
end
end Pc

set_option Elab.async false
set_option linter.all false
set_option maxRecDepth 100000
set_option maxHeartbeats 1000000
set_option autoImplicit false
/-! Pc1: operators -/
namespace Pc
open PySem PySem.Spec PyProof.Rows L2

/-! ### reading data -/
mutual
def D.py0 : D → Option PyData
  | .non => some .none
  | .bl b => some (.bool b)
  | .int i => some (.int i)
  | .str x => some (.str x)
  | .tup xs => match pyL xs with
    | some l => some (.tuple l)
    | none => none
  | .ctup xs => match pyL xs with
    | some l => some (.tuple l)
    | none => none
  | .lst xs => match pyL xs with
    | some l => some (.list l)
    | none => none
  | _ => none
def pyL : List D → Option (List PyData)
  | [] => some []
  | d :: ds => match d.py0 with
    | some p => match pyL ds with
      | some l => some (p :: l)
      | none => none
    | none => none
end
/-- the items of a list, frozen or in the memory -/
def seqL (M : Mem) : D → Option (List D)
  | .lst xs => some xs
  | .ref i => match M[i]? with
    | some (.lst xs) => some xs
    | _ => none
  | _ => none
def seqT : D → Option (List D)
  | .tup xs => some xs
  | .ctup xs => some xs
  | _ => none
/-- of a list or a tuple -/
def seqA (M : Mem) (d : D) : Option (List D) := match d with
  | .tup xs => some xs
  | .ctup xs => some xs
  | d => seqL M d
def D.py (M : Mem) (d : D) : Option PyData := match d with
  | .ref i => match seqL M (.ref i) with
    | some xs => match pyL xs with
      | some l => some (.list l)
      | none => none
    | none => none
  | d => d.py0
/-- a dict's keys and values (keys ints and texts) -/
def dicK (M : Mem) : D → Option (List Key × List D)
  | .dic ks ds => some (ks, ds)
  | .ref i => match M[i]? with
    | some (.dk ks ds) => some (ks, ds)
    | _ => none
  | _ => none
def dicT (M : Mem) : D → Option (List (List Key) × List D)
  | .dit ks ds => some (ks, ds)
  | .ref i => match M[i]? with
    | some (.dt ks ds) => some (ks, ds)
    | _ => none
  | _ => none
def D.key : D → Option Key
  | .int i => some (.inl i)
  | .str x => some (.inr x)
  | _ => none
def keysOf : List D → Option (List Key)
  | [] => some []
  | d :: ds => match d.key with
    | some k => match keysOf ds with
      | some l => some (k :: l)
      | none => none
    | none => none
def D.keyT : D → Option (List Key)
  | .tup xs => keysOf xs
  | _ => none
def lookD {κ : Type} [DecidableEq κ] : List κ → List D → κ → Option D
  | k :: ks, d :: ds, j => if k = j then some d else lookD ks ds j
  | _, _, _ => none
/-- what a dict holds at a key; none: not a dict or not a key -/
def dGet (M : Mem) (d k : D) : Option (Option D) := match dicK M d, k.key with
  | some (ks, ds), some j => some (lookD ks ds j)
  | _, _ => match dicT M d, k.keyT with
    | some (ks, ds), some j => some (lookD ks ds j)
    | _, _ => none

section
variable {K : PySem.W.Frag} {F H : Hp} {io : List Addr} {M : Mem}
mutual
theorem rel_dp (s : Same F H) : ∀ (d : D) (v : V) (p : PyData), Rel K F io d v → d.py0 = some p → Dp K H v p
  | .non, _, _, h, e => by
    cases e; obtain rfl := (show _ = V.non from h); exact .non
  | .bl b, _, _, h, e => by
    cases e; obtain rfl := (show _ = V.bl b from h); exact .bl b
  | .int i, _, _, h, e => by
    cases e; obtain rfl := (show _ = V.int i from h); exact .int i
  | .str x, _, _, h, e => by
    cases e; obtain rfl := (show _ = V.str x from h); exact .str x
  | .tup xs, _, p, h, e => by
    obtain ⟨a, vs, rfl, q, r⟩ := (show ∃ a vs, _ = V.ref a ∧ F a = some (.tup vs) ∧ RelL K F io xs vs from h)
    rw [D.py0] at e
    cases hp : pyL xs with
    | none => rw [hp] at e; cases e
    | some l =>
      rw [hp] at e
      cases e
      exact .tup (.of (s _ _ q)) (relL_dp s xs vs l r hp)
  | .ctup xs, _, p, h, e => by
    obtain ⟨a, vs, rfl, q, r⟩ := (show ∃ a vs, _ = V.ref a ∧ SqT K F a vs ∧ RelL K F io xs vs from h)
    rw [D.py0] at e
    cases hp : pyL xs with
    | none => rw [hp] at e; cases e
    | some l =>
      rw [hp] at e
      cases e
      exact .tup (SqT.mono s q) (relL_dp s xs vs l r hp)
  | .lst xs, _, p, h, e => by
    obtain ⟨a, vs, rfl, q, r⟩ := (show ∃ a vs, _ = V.ref a ∧ F a = some (.lst vs) ∧ RelL K F io xs vs from h)
    rw [D.py0] at e
    cases hp : pyL xs with
    | none => rw [hp] at e; cases e
    | some l =>
      rw [hp] at e
      cases e
      exact .lst (.of (s _ _ q)) (relL_dp s xs vs l r hp)
  | .ref i, _, _, _, e => by cases e
  | .obj c ns ds, _, _, _, e => by cases e
  | .dic ks ds, _, _, _, e => by cases e
  | .dit ks ds, _, _, _, e => by cases e
  | .scr ns, _, _, _, e => by cases e
  | .fn x, _, _, _, e => by cases e
  | .exo c ns ds, _, _, _, e => by cases e
theorem relL_dp (s : Same F H) : ∀ (ds : List D) (vs : List V) (l : List PyData), RelL K F io ds vs → pyL ds = some l → DpAll K H vs l
  | [], _, _, h, e => by
    cases e; obtain rfl := (show _ = [] from h); exact .nil
  | d :: ds, _, l, h, e => by
    obtain ⟨v, r, rfl, h1, h2⟩ := (show ∃ v r, _ = v :: r ∧ Rel K F io d v ∧ RelL K F io ds r from h)
    rw [pyL] at e
    cases hd : d.py0 with
    | none => rw [hd] at e; cases e
    | some p =>
      rw [hd] at e
      cases hl : pyL ds with
      | none => rw [hl] at e; cases e
      | some l' =>
        rw [hl] at e
        cases e
        exact .cons (rel_dp s d v p h1 hd) (relL_dp s ds r l' h2 hl)
end
theorem HA.lst (h : HA K F io H M) {d : D} {v : V} {xs : List D} (r : Rel K F io d v) (e : seqL M d = some xs) : ∃ a vs, v = .ref a ∧ H a = some (.lst vs) ∧ RelL K F io xs vs := by
  cases d with
  | lst ys =>
    cases e
    obtain ⟨a, vs, q, q1, q2⟩ := (show ∃ a vs, _ = V.ref a ∧ F a = some (.lst vs) ∧ RelL K F io xs vs from r)
    exact ⟨a, vs, q, h.sub _ _ q1, q2⟩
  | ref i =>
    obtain ⟨a, q, q1⟩ := (show ∃ a, _ = V.ref a ∧ io[i]? = some a from r)
    rw [seqL] at e
    cases hm : M[i]? with
    | none => rw [hm] at e; cases e
    | some o =>
      rw [hm] at e
      cases o with
      | lst ys =>
        cases e
        obtain ⟨a', e1, e2, vs, e3, e4⟩ := h.at_ i _ hm
        rw [q1] at e1
        cases e1
        exact ⟨a, vs, q, e3, e4⟩
      | _ => cases e
  | _ => cases e
theorem HA.seqA (h : HA K F io H M) {d : D} {v : V} {xs : List D} (r : Rel K F io d v) (e : seqA M d = some xs) : ∃ a vs, v = .ref a ∧ (SqL K H a vs ∨ SqT K H a vs) ∧ RelL K F io xs vs := by
  cases d with
  | tup ys =>
    cases e
    obtain ⟨a, vs, q, q1, q2⟩ := (show ∃ a vs, _ = V.ref a ∧ F a = some (.tup vs) ∧ RelL K F io xs vs from r)
    exact ⟨a, vs, q, .inr (.of (h.sub _ _ q1)), q2⟩
  | ctup ys =>
    cases e
    obtain ⟨a, vs, q, q1, q2⟩ := (show ∃ a vs, _ = V.ref a ∧ SqT K F a vs ∧ RelL K F io xs vs from r)
    exact ⟨a, vs, q, .inr (SqT.mono h.sub q1), q2⟩
  | lst ys => obtain ⟨a, vs, q, q1, q2⟩ := h.lst r e; exact ⟨a, vs, q, .inl (.of q1), q2⟩
  | ref i => obtain ⟨a, vs, q, q1, q2⟩ := h.lst r e; exact ⟨a, vs, q, .inl (.of q1), q2⟩
  | _ => cases e
theorem HA.tup' (h : HA K F io H M) {xs : List D} {v : V} (r : Rel K F io (.tup xs) v) : ∃ a vs, v = .ref a ∧ H a = some (.tup vs) ∧ RelL K F io xs vs := by
  obtain ⟨a, vs, q, q1, q2⟩ := (show ∃ a vs, _ = V.ref a ∧ F a = some (.tup vs) ∧ RelL K F io xs vs from r)
  exact ⟨a, vs, q, h.sub _ _ q1, q2⟩
theorem HA.tup (h : HA K F io H M) {xs : List D} {v : V} (r : Rel K F io (.tup xs) v) : ∃ a vs, v = .ref a ∧ SqT K H a vs ∧ RelL K F io xs vs := by
  obtain ⟨a, vs, q, q1, q2⟩ := h.tup' r
  exact ⟨a, vs, q, .of q1, q2⟩
theorem HA.seqT (h : HA K F io H M) {d : D} {v : V} {xs : List D} (r : Rel K F io d v) (e : seqT d = some xs) : ∃ a vs, v = .ref a ∧ SqT K H a vs ∧ RelL K F io xs vs := by
  cases d with
  | tup ys => cases e; exact h.tup r
  | ctup ys =>
    cases e
    obtain ⟨a, vs, q, q1, q2⟩ := (show ∃ a vs, _ = V.ref a ∧ SqT K F a vs ∧ RelL K F io xs vs from r)
    exact ⟨a, vs, q, SqT.mono h.sub q1, q2⟩
  | _ => cases e
theorem HA.dp (h : HA K F io H M) {d : D} {v : V} {p : PyData} (r : Rel K F io d v) (e : d.py M = some p) : Dp K H v p := by
  cases d with
  | ref i =>
    rw [D.py] at e
    cases hs : seqL M (.ref i) with
    | none => rw [hs] at e; cases e
    | some xs =>
      rw [hs] at e
      cases hl : pyL xs with
      | none => dsimp only at e; rw [hl] at e; cases e
      | some l =>
        dsimp only at e
        rw [hl] at e
        cases e
        obtain ⟨a, vs, rfl, q1, q2⟩ := h.lst r hs
        exact .lst (.of q1) (relL_dp h.sub xs vs l q2 hl)
  | _ => exact rel_dp h.sub _ v p r e
theorem RelL.length : ∀ {ds : List D} {vs : List V}, RelL K F io ds vs → ds.length = vs.length
  | [], _, h => by obtain rfl := (show _ = [] from h); rfl
  | d :: ds, _, h => by
    obtain ⟨v, r, rfl, _, h2⟩ := (show ∃ v r, _ = v :: r ∧ Rel K F io d v ∧ RelL K F io ds r from h)
    rw [List.length_cons, List.length_cons, RelL.length h2]
theorem RelL.append : ∀ {ds es : List D} {vs us : List V}, RelL K F io ds vs → RelL K F io es us → RelL K F io (ds ++ es) (vs ++ us)
  | [], _, _, _, h, g => by obtain rfl := (show _ = [] from h); exact g
  | d :: ds, _, _, _, h, g => by
    obtain ⟨v, r, rfl, h1, h2⟩ := (show ∃ v r, _ = v :: r ∧ Rel K F io d v ∧ RelL K F io ds r from h)
    exact ⟨v, r ++ _, rfl, h1, RelL.append h2 g⟩
theorem RelL.get : ∀ {ds : List D} {vs : List V} {i : Nat} {d : D}, RelL K F io ds vs → ds[i]? = some d → ∃ v, vs[i]? = some v ∧ Rel K F io d v
  | [], _, _, _, _, e => by simp at e
  | d :: ds, _, 0, _, h, e => by
    obtain ⟨v, r, rfl, h1, _⟩ := (show ∃ v r, _ = v :: r ∧ Rel K F io d v ∧ RelL K F io ds r from h)
    simp at e; subst e
    exact ⟨v, rfl, h1⟩
  | d :: ds, _, i + 1, _, h, e => by
    obtain ⟨v, r, rfl, _, h2⟩ := (show ∃ v r, _ = v :: r ∧ Rel K F io d v ∧ RelL K F io ds r from h)
    obtain ⟨u, q, q'⟩ := RelL.get (i := i) h2 (by simpa using e)
    exact ⟨u, by simpa using q, q'⟩
theorem RelL.get' : ∀ {ds : List D} {vs : List V} {i : Nat} {v : V}, RelL K F io ds vs → vs[i]? = some v → ∃ d, ds[i]? = some d ∧ Rel K F io d v
  | [], _, i, _, h, e => by obtain rfl := (show _ = [] from h); simp at e
  | d :: ds, _, 0, _, h, e => by
    obtain ⟨v, r, rfl, h1, _⟩ := (show ∃ v r, _ = v :: r ∧ Rel K F io d v ∧ RelL K F io ds r from h)
    simp at e; subst e
    exact ⟨d, rfl, h1⟩
  | d :: ds, _, i + 1, _, h, e => by
    obtain ⟨v, r, rfl, _, h2⟩ := (show ∃ v r, _ = v :: r ∧ Rel K F io d v ∧ RelL K F io ds r from h)
    obtain ⟨u, q, q'⟩ := RelL.get' (i := i) h2 (by simpa using e)
    exact ⟨u, by simpa using q, q'⟩
theorem RelL.take : ∀ (n : Nat) {ds : List D} {vs : List V}, RelL K F io ds vs → RelL K F io (ds.take n) (vs.take n)
  | 0, _, _, _ => by simp [RelL]
  | n + 1, [], _, h => by obtain rfl := (show _ = [] from h); exact rfl
  | n + 1, d :: ds, _, h => by
    obtain ⟨v, r, rfl, h1, h2⟩ := (show ∃ v r, _ = v :: r ∧ Rel K F io d v ∧ RelL K F io ds r from h)
    exact ⟨v, r.take n, rfl, h1, RelL.take n h2⟩
theorem RelL.drop : ∀ (n : Nat) {ds : List D} {vs : List V}, RelL K F io ds vs → RelL K F io (ds.drop n) (vs.drop n)
  | 0, _, _, h => h
  | n + 1, [], _, h => by obtain rfl := (show _ = [] from h); exact rfl
  | n + 1, d :: ds, _, h => by
    obtain ⟨v, r, rfl, h1, h2⟩ := (show ∃ v r, _ = v :: r ∧ Rel K F io d v ∧ RelL K F io ds r from h)
    exact RelL.drop n h2
theorem RelL.set : ∀ (i : Nat) {ds : List D} {vs : List V} {d : D} {v : V}, RelL K F io ds vs → Rel K F io d v → RelL K F io (ds.set i d) (vs.set i v)
  | _, [], _, _, _, h, _ => by obtain rfl := (show _ = [] from h); exact rfl
  | 0, d :: ds, _, _, _, h, g => by
    obtain ⟨v, r, rfl, h1, h2⟩ := (show ∃ v r, _ = v :: r ∧ Rel K F io d v ∧ RelL K F io ds r from h)
    exact ⟨_, r, rfl, g, h2⟩
  | i + 1, d :: ds, _, _, _, h, g => by
    obtain ⟨v, r, rfl, h1, h2⟩ := (show ∃ v r, _ = v :: r ∧ Rel K F io d v ∧ RelL K F io ds r from h)
    exact ⟨v, r.set i _, rfl, h1, RelL.set i h2 g⟩
theorem RelL.rep {ds : List D} {vs : List V} (h : RelL K F io ds vs) : ∀ n, RelL K F io (List.replicate n ds).flatten (List.replicate n vs).flatten
  | 0 => rfl
  | n + 1 => by rw [List.replicate_succ, List.replicate_succ, List.flatten_cons, List.flatten_cons]; exact h.append (RelL.rep h n)
theorem key_rel {d : D} {v : V} {k : Key} (r : Rel K F io d v) (e : d.key = some k) : v = kV k := by
  cases d with
  | int i => cases e; exact r
  | str x => cases e; exact r
  | _ => cases e
theorem keys_rel : ∀ {ds : List D} {vs : List V} {ks : List Key}, RelL K F io ds vs → keysOf ds = some ks → vs = ks.map kV
  | [], _, _, h, e => by cases e; exact h
  | d :: ds, _, _, h, e => by
    obtain ⟨v, r, rfl, h1, h2⟩ := (show ∃ v r, _ = v :: r ∧ Rel K F io d v ∧ RelL K F io ds r from h)
    rw [keysOf] at e
    cases hk : d.key with
    | none => rw [hk] at e; cases e
    | some k =>
      rw [hk] at e
      cases hl : keysOf ds with
      | none => dsimp only at e; rw [hl] at e; cases e
      | some l =>
        dsimp only at e; rw [hl] at e
        cases e
        rw [key_rel h1 hk, keys_rel h2 hl]
        rfl
end
end Pc

set_option Elab.async false
set_option linter.all false
set_option maxRecDepth 100000
set_option maxHeartbeats 1000000
set_option autoImplicit false
/-! Pc2: the operators' meanings -/
namespace Pc
open PySem PySem.Spec PyProof.Rows L2

section
variable {K : PySem.W.Frag} {W : WX} {F H : Hp} {io : List Addr} {M : Mem} {σ : St} {Q : VK}
theorem HA.fnone {p : Addr} (h : HA K F io H M) (hp : H p = none) : F p = none := by
  cases e : F p with
  | none => rfl
  | some o => rw [h.sub p o e] at hp; cases hp
theorem post_val {d : D} {v : V} (p : PostE K W F io H σ Q (.ok (.val d) M)) (h : HA K F io H M) (r : Rel K F io d v) : Q v H := p F io H v h .refl r
theorem post_own {o : MO} {u : HO} {p : Addr} (q : PostE K W F io H σ Q (.ok (.own o) M)) (h : HA K F io H M) (hp : H p = none) (r : MR K F io (upd H p u) p o) : Q (.ref p) (upd H p u) :=
  q F io _ _ (h.new hp) (Ex.new h hp) ⟨p, rfl, hp, h.fnone hp, h.notin hp, r⟩
theorem post_lst {xs : List D} {vs : List V} {p : Addr} (q : PostE K W F io H σ Q (.ok (.own (.lst xs)) M)) (h : HA K F io H M) (r : RelL K F io xs vs) (hp : H p = none) : Q (.ref p) (upd H p (.lst vs)) :=
  post_own q h hp ⟨vs, upd_same, r⟩
/-- a new frozen object -/
theorem HA.newF {p : Addr} {o : HO} (h : HA K F io H M) (hp : H p = none) : HA K (upd F p o) io (upd H p o) M ∧ Ex F io H (upd F p o) io (upd H p o) ∧ Same F (upd F p o) := by
  have h1 := h.new (o := o) hp
  obtain ⟨h2, s⟩ := h1.freeze (a := p) (o := o) upd_same (h.notin hp)
  refine ⟨h2, ⟨s, fun _ _ z => z, (Ex.new h hp).frame, fun b u e => ?_, fun _ z => .inl z, (Ex.new h hp).there⟩, s⟩
  by_cases q : b = p
  · subst q; exact .inr hp
  · rw [upd_ne q] at e; exact .inl e
theorem post_tup {xs : List D} {vs : List V} {p : Addr} (q : PostE K W F io H σ Q (.ok (.val (.tup xs)) M)) (h : HA K F io H M) (r : RelL K F io xs vs) (hp : H p = none) : Q (.ref p) (upd H p (.tup vs)) := by
  obtain ⟨h1, h2, s⟩ := h.newF (o := .tup vs) hp
  exact q _ io _ _ h1 h2 ⟨p, vs, rfl, upd_same, RelL.mono s (fun _ _ z => z) _ _ r⟩
end

def rBin (K : PySem.W.Frag) (f : D → D → Mem → R RV) : R2 := fun x y H Q => ∃ F io M d1 d2 W σ, HA K F io H M ∧ Rel K F io d1 x ∧ Rel K F io d2 y ∧ PostE K W F io H σ Q (f d1 d2 M)

/-! ### arithmetic -/
def vI (i : Int) (M : Mem) : R RV := .ok (.val (.int i)) M
def vB (b : Bool) (M : Mem) : R RV := .ok (.val (.bl b)) M
def catL (d1 d2 : D) (M : Mem) : R RV := match seqL M d1, seqL M d2 with
  | some xs, some ys => if xs.length + ys.length ≤ sizeLine then .ok (.own (.lst (xs ++ ys))) M else .stuck
  | _, _ => .stuck
def addS (d1 d2 : D) (M : Mem) : R RV := match d1, d2 with
  | .int i, .int j => vI (i + j) M
  | .str a, .str b => if a.length + b.length ≤ sizeLine then .ok (.val (.str (a ++ b))) M else .stuck
  | .tup xs, .tup ys => if xs.length + ys.length ≤ sizeLine then .ok (.val (.tup (xs ++ ys))) M else .stuck
  | d1, d2 => catL d1 d2 M
def subS (d1 d2 : D) (M : Mem) : R RV := match d1, d2 with
  | .int i, .int j => vI (i - j) M
  | _, _ => .stuck
def MulOk (i j : Int) : Prop := (-(2 ^ 64) < i ∧ i < 2 ^ 64) ∨ (-(2 ^ 64) < j ∧ j < 2 ^ 64) ∨ i.natAbs.log2 + j.natAbs.log2 < 1000000
instance (i j : Int) : Decidable (MulOk i j) := by unfold MulOk; exact inferInstance
def mulS (d1 d2 : D) (M : Mem) : R RV := match d1, d2 with
  | .int i, .int j => if MulOk i j then vI (i * j) M else .stuck
  | d, .int k => match seqL M d with
    | some xs => if -(2 ^ 63) ≤ k ∧ k < 2 ^ 63 ∧ xs.length * k.toNat ≤ sizeLine then .ok (.own (.lst (List.replicate k.toNat xs).flatten)) M else .stuck
    | none => .stuck
  | _, _ => .stuck
def divS (d1 d2 : D) (M : Mem) : R RV := match d1, d2 with
  | .int i, .int j => if 0 < j ∧ j.natAbs.log2 < 9000 then vI (i / j) M else .stuck
  | _, _ => .stuck
def modS (d1 d2 : D) (M : Mem) : R RV := match d1, d2 with
  | .int i, .int j => if 0 < j then vI (i % j) M else .stuck
  | _, _ => .stuck
def powS (d1 d2 : D) (M : Mem) : R RV := match d1, d2 with
  | .int i, .int j => if 0 ≤ j ∧ j ≤ 1000000 ∧ i.natAbs < 2 ^ 64 then vI (i ^ j.toNat) M else .stuck
  | _, _ => .stuck
def shlS (d1 d2 : D) (M : Mem) : R RV := match d1, d2 with
  | .int i, .int j => if 0 ≤ j ∧ j ≤ 1000000 ∧ i.natAbs < 2 ^ 64 then vI (i * 2 ^ j.toNat) M else .stuck
  | _, _ => .stuck
def shrS (d1 d2 : D) (M : Mem) : R RV := match d1, d2 with
  | .int i, .int j => if 0 ≤ j then vI (i / 2 ^ j.toNat) M else .stuck
  | _, _ => .stuck
def andS (d1 d2 : D) (M : Mem) : R RV := match d1, d2 with
  | .int i, .int j => vI (Builtin.bitAnd i j) M
  | _, _ => .stuck
def binS : Operator → D → D → Mem → R RV
  | .Add => addS | .Sub => subS | .Mult => mulS | .FloorDiv => divS | .Mod => modS | .Pow => powS
  | .LShift => shlS | .RShift => shrS | .BitAnd => andS
  | _ => fun _ _ _ => .stuck

section
variable {X : Cx}
theorem r_catL {d1 d2 : D} {pins : List (Addr × Obj)} {s : Shared} {σ : St} {H : Hp} {x y : V} {v u : Value} {Q : VK} {F : Hp} {io : List Addr} {M : Mem} {W : WX} {σ' : St} (I : Inv X pins σ H s) (rx : RelV x v) (ry : RelV y u)
    (ha : HA X.K F io H M) (r1 : Rel X.K F io d1 x) (r2 : Rel X.K F io d2 y) (p : PostE X.K W F io H σ' Q (catL d1 d2 M)) : wpAny (model X.prog X.w) X.A (binaryOp .Add v u) (EP X pins σ Q) X.xe s := by
  unfold catL at p
  cases e1 : seqL M d1 with
  | none => rw [e1] at p; exact p.elim
  | some xs =>
    cases e2 : seqL M d2 with
    | none => rw [e1, e2] at p; exact p.elim
    | some ys =>
      rw [e1, e2] at p
      dsimp only at p
      split at p
      · rename_i hz
        obtain ⟨a, vs, e1, g1, l1⟩ := ha.lst r1 e1
        obtain ⟨b, us, e2, g2, l2⟩ := ha.lst r2 e2
        rw [l1.length, l2.length] at hz
        exact op_cat pins s σ H x y v u Q I rx ry ⟨a, b, vs, us, e1, e2, g1, g2, hz, fun q hq => post_lst p ha (l1.append l2) hq⟩
      · exact p.elim
theorem bin_add : OpR X (binaryOp .Add) (rBin X.K addS) := by
  intro pins s σ H x y v u Q I rx ry h
  obtain ⟨F, io, M, d1, d2, W, σ', ha, r1, r2, p⟩ := h
  unfold addS at p
  split at p
  · rename_i i j
    obtain rfl := (show x = V.int i from r1)
    obtain rfl := (show y = V.int j from r2)
    exact op_add pins s σ H _ _ v u Q I rx ry ⟨i, j, rfl, rfl, post_val p ha rfl⟩
  · rename_i a b
    obtain rfl := (show x = V.str a from r1)
    obtain rfl := (show y = V.str b from r2)
    split at p
    · rename_i hz
      exact op_add_str pins s σ H _ _ v u Q I rx ry ⟨a, b, rfl, rfl, hz, post_val p ha rfl⟩
    · exact p.elim
  · rename_i xs ys
    split at p
    · rename_i hz
      obtain ⟨a, vs, e1, g1, l1⟩ := ha.tup r1
      obtain ⟨b, us, e2, g2, l2⟩ := ha.tup r2
      rw [l1.length, l2.length] at hz
      refine op_catA pins s σ H _ _ v u Q I rx ry ⟨a, b, vs, us, e1, e2, g1, g2, hz, fun z => ?_, fun z1 z2 => ?_, fun _ _ q hq => post_tup p ha (l1.append l2) hq⟩
      · have : xs = [] := by
          have := l1.length
          rw [z] at this
          exact List.eq_nil_of_length_eq_zero this
        subst this
        rw [← e2]
        exact post_val p ha r2
      · have : ys = [] := by
          have := l2.length
          rw [z2] at this
          exact List.eq_nil_of_length_eq_zero this
        subst this
        rw [← e1]
        rw [List.append_nil] at p
        exact post_val p ha r1
    · exact p.elim
  · exact r_catL I rx ry ha r1 r2 p
theorem bin_sub : OpR X (binaryOp .Sub) (rBin X.K subS) := by
  intro pins s σ H x y v u Q I rx ry h
  obtain ⟨F, io, M, d1, d2, W, σ', ha, r1, r2, p⟩ := h
  unfold subS at p
  split at p
  · rename_i i j
    obtain rfl := (show x = V.int i from r1)
    obtain rfl := (show y = V.int j from r2)
    exact op_sub pins s σ H _ _ v u Q I rx ry ⟨i, j, rfl, rfl, post_val p ha rfl⟩
  · exact p.elim
theorem bin_mul : OpR X (binaryOp .Mult) (rBin X.K mulS) := by
  intro pins s σ H x y v u Q I rx ry h
  obtain ⟨F, io, M, d1, d2, W, σ', ha, r1, r2, p⟩ := h
  unfold mulS at p
  split at p
  · rename_i i j
    obtain rfl := (show x = V.int i from r1)
    obtain rfl := (show y = V.int j from r2)
    split at p
    · rename_i hz
      rcases hz with hz | hz | hz
      · exact op_mul pins s σ H _ _ v u Q I rx ry ⟨i, j, rfl, rfl, .inl hz, post_val p ha rfl⟩
      · exact op_mul pins s σ H _ _ v u Q I rx ry ⟨i, j, rfl, rfl, .inr hz, post_val p ha rfl⟩
      · exact op_mulW pins s σ H _ _ v u Q I rx ry ⟨i, j, rfl, rfl, hz, post_val p ha rfl⟩
    · exact p.elim
  · rename_i d k hn
    obtain rfl := (show y = V.int k from r2)
    split at p
    · rename_i xs e
      split at p
      · rename_i hz
        obtain ⟨a, vs, e1, g1, l1⟩ := ha.lst r1 e
        rw [l1.length] at hz
        exact op_rep pins s σ H _ _ v u Q I rx ry ⟨a, k, vs, e1, rfl, g1, hz.1, hz.2.1, hz.2.2, fun q hq => post_lst p ha (l1.rep _) hq⟩
      · exact p.elim
    · exact p.elim
  · exact p.elim
theorem bin_int {op : Operator} {C : Int → Int → Prop} [∀ i j, Decidable (C i j)] {g : Int → Int → Int} {f : D → D → Mem → R RV} (ho : OpR X (binaryOp op) (rI C fun i j => .int (g i j)))
    (hf : ∀ d1 d2 M, f d1 d2 M = match d1, d2 with
      | .int i, .int j => if C i j then vI (g i j) M else .stuck
      | _, _ => .stuck) : OpR X (binaryOp op) (rBin X.K f) := by
  intro pins s σ H x y v u Q I rx ry h
  obtain ⟨F, io, M, d1, d2, W, σ', ha, r1, r2, p⟩ := h
  rw [hf] at p
  split at p
  · rename_i i j
    obtain rfl := (show x = V.int i from r1)
    obtain rfl := (show y = V.int j from r2)
    split at p
    · rename_i hz
      exact ho pins s σ H _ _ v u Q I rx ry ⟨i, j, rfl, rfl, hz, post_val p ha rfl⟩
    · exact p.elim
  · exact p.elim
theorem bin_div : OpR X (binaryOp .FloorDiv) (rBin X.K divS) := bin_int (C := fun _ j => 0 < j ∧ j.natAbs.log2 < 9000) op_fdivW (fun _ _ _ => rfl)
theorem bin_mod : OpR X (binaryOp .Mod) (rBin X.K modS) := bin_int (C := fun _ j => 0 < j) op_mod (fun _ _ _ => rfl)
theorem bin_pow : OpR X (binaryOp .Pow) (rBin X.K powS) := bin_int (C := fun i j => 0 ≤ j ∧ j ≤ 1000000 ∧ i.natAbs < 2 ^ 64) op_pow (fun _ _ _ => rfl)
theorem bin_shl : OpR X (binaryOp .LShift) (rBin X.K shlS) := bin_int (C := fun i j => 0 ≤ j ∧ j ≤ 1000000 ∧ i.natAbs < 2 ^ 64) op_shl (fun _ _ _ => rfl)
theorem bin_shr : OpR X (binaryOp .RShift) (rBin X.K shrS) := bin_int (C := fun _ j => 0 ≤ j) op_shr (fun _ _ _ => rfl)
theorem bin_and : OpR X (binaryOp .BitAnd) (rBin X.K andS) := by
  intro pins s σ H x y v u Q I rx ry h
  obtain ⟨F, io, M, d1, d2, W, σ', ha, r1, r2, p⟩ := h
  unfold andS at p
  split at p
  · rename_i i j
    obtain rfl := (show x = V.int i from r1)
    obtain rfl := (show y = V.int j from r2)
    exact op_and pins s σ H _ _ v u Q I rx ry ⟨i, j, rfl, rfl, post_val p ha rfl⟩
  · exact p.elim
theorem bin_any : ∀ (op : Operator), OpR X (binaryOp op) (rBin X.K (binS op))
  | .Add => bin_add | .Sub => bin_sub | .Mult => bin_mul | .FloorDiv => bin_div | .Mod => bin_mod | .Pow => bin_pow
  | .LShift => bin_shl | .RShift => bin_shr | .BitAnd => bin_and
  | .MatMult | .Div | .BitOr | .BitXor => fun pins s σ H x y v u Q I rx ry h => by
    obtain ⟨F, io, M, d1, d2, W, σ', ha, r1, r2, p⟩ := h
    exact p.elim
/-- two operands -/
theorem tD2 {K : PySem.W.Frag} {W : WX} {m1 m2 : MD} {f : D → D → Mem → R RV} {σ : St} {H : Hp} {Q : VK} (h : tE K W (fun env M => (m1 env M).bind fun d1 M1 => (m2 env M1).bind fun d2 M2 => f d1 d2 M2) σ H Q) :
    tD K W m1 σ H fun x H1 => tD K W m2 σ H1 fun y H2 => rBin K f x y H2 Q := by
  obtain ⟨F, io, env, M, ha, er, p⟩ := h
  refine ⟨F, io, env, M, ha, er, ?_⟩
  dsimp only at p
  cases q : m1 env M with
  | stuck => rw [q] at p; exact p
  | exc c ns ds M' => rw [q] at p; exact p
  | ok d M1 =>
    rw [q] at p
    intro F1 io1 H1 x a b c
    refine ⟨F1, io1, env, M1, a, er.mono b.sub b.ids, ?_⟩
    have p1 := PostE.from_ b p
    dsimp only [R.bind] at p1
    cases q2 : m2 env M1 with
    | stuck => rw [q2] at p1; exact p1
    | exc c ns ds M' => rw [q2] at p1; exact p1
    | ok e M2 =>
      rw [q2] at p1
      intro F2 io2 H2 y a2 b2 c2
      exact ⟨F2, io2, M2, d, e, W, σ, a2, Rel.mono b2.sub b2.ids _ _ c, c2, PostE.from_ b2 p1⟩
def mBin (op : Operator) (m1 m2 : ME) : ME := fun env M => (mD m1 env M).bind fun d1 M1 => (mD m2 env M1).bind fun d2 M2 => binS op d1 d2 M2
theorem pm_bin {W : WX} {op : Operator} {a b : Expr} {m1 m2 : ME} {pos : Pos} (ha : PE X a (tE X.K W m1)) (hb : PE X b (tE X.K W m2)) : PE X (.BinOp a op b pos) (tE X.K W (mBin op m1 m2)) :=
  PE.imp' (pe_op (bin_any op) (pe_d ha) (pe_d hb)) fun _ _ _ h => tD2 h
end
end Pc

set_option Elab.async false
set_option linter.all false
set_option maxRecDepth 100000
set_option maxHeartbeats 1000000
set_option autoImplicit false
/-! Pc3: comparisons, truth -/
namespace Pc
open PySem PySem.Spec PyProof.Rows L2

/-! ### == -/
def eqO (d1 d2 : D) (M : Mem) : Option Bool := match d1.py M, d2.py M with
  | some p, some q => if SeqAt.shaped p = true ∧ SeqAt.shaped q = true then some (PyData.eqv p q) else none
  | _, _ => none
def rB (o : Option Bool) (M : Mem) : R RV := match o with
  | some b => vB b M
  | none => .stuck
def eqS (d1 d2 : D) (M : Mem) : R RV := rB (eqO d1 d2 M) M
def neS (d1 d2 : D) (M : Mem) : R RV := rB ((eqO d1 d2 M).map not) M
/-! ### order -/
def ltO (d1 d2 : D) : Option Bool := match d1, d2 with
  | .int i, .int j => some (decide (i < j))
  | _, _ => none
def leO (d1 d2 : D) : Option Bool := match d1, d2 with
  | .int i, .int j => some (decide (i ≤ j))
  | _, _ => none
/-! ### in -/
def flatD : D → Bool
  | .non => true | .bl _ => true | .int _ => true | .str _ => true
  | _ => false
def inO (d1 d2 : D) (M : Mem) : Option Bool := match d1, d2 with
  | .str a, .str z => match a.cps.toList with
    | [c] => some (decide (c ∈ z.cps.toList))
    | _ => some (!(Builtin.Str.occurrences z a 0 z.length 1).isEmpty)
  | d, .ctup xs => if flatD d = true ∧ xs.all flatD = true then (match d.py0, pyL xs with
    | some p, some l => some (l.any fun z => PyData.eqv z p)
    | _, _ => none) else none
  | d, .tup xs => if flatD d = true ∧ xs.all flatD = true then (match d.py0, pyL xs with
    | some p, some l => some (l.any fun z => PyData.eqv z p)
    | _, _ => none) else none
  | d, s => match seqL M s with
    | some xs => (match d.py M, pyL xs with
      | some p, some l => if SeqAt.shaped p = true ∧ SeqAt.shaped (.list l) = true then some (l.any fun z => PyData.eqv z p) else none
      | _, _ => none)
    | none => (dGet M s d).map Option.isSome
/-- is, is not: None alone -/
def isO (d1 d2 : D) : Option Bool := match d1, d2 with
  | .non, .non => some true
  | _, .non => some false
  | _, _ => none
def cmpS : CmpOp → D → D → Mem → R RV
  | .Eq => eqS
  | .NotEq => neS
  | .Lt => fun a b M => rB (ltO a b) M
  | .LtE => fun a b M => rB (leO a b) M
  | .Gt => fun a b M => rB (ltO b a) M
  | .GtE => fun a b M => rB (leO b a) M
  | .In => fun a b M => rB (inO a b M) M
  | .NotIn => fun a b M => rB ((inO a b M).map not) M
  | .Is => fun a b M => rB (isO a b) M
  | .IsNot => fun a b M => rB ((isO a b).map not) M

theorem lookD_val {κ : Type} [DecidableEq κ] {K : PySem.W.Frag} {F : Hp} {io : List Addr} {k : κ} : ∀ {kvs : List (κ × V)} {ds : List D}, RelL K F io ds (kvs.map (·.2)) →
    (∀ d, lookD (kvs.map (·.1)) ds k = some d → ∃ v, valV kvs k = some v ∧ Rel K F io d v) ∧ (lookD (kvs.map (·.1)) ds k = none → valV kvs k = none)
  | [], ds, h => ⟨fun d e => by simp [lookD] at e, fun _ => rfl⟩
  | (j, x) :: r, ds, h => by
    cases ds with
    | nil => have := (show _ = [] from h); simp at this
    | cons d ds =>
      obtain ⟨v, t, e, h1, h2⟩ := (show ∃ v r, _ = v :: r ∧ Rel K F io d v ∧ RelL K F io ds r from h)
      rw [List.map_cons] at e
      injection e with e1 e2
      subst e1 e2
      obtain ⟨i1, i2⟩ := lookD_val (k := k) h2
      rw [List.map_cons, lookD]
      by_cases hk : j = k
      · rw [if_pos hk, valV_pos (p := (j, x)) hk]
        exact ⟨fun d' e => by cases e; exact ⟨_, rfl, h1⟩, fun e => by cases e⟩
      · rw [if_neg hk, valV_neg (p := (j, x)) hk]
        exact ⟨i1, i2⟩
section
variable {X : Cx}
variable {K : PySem.W.Frag} {F H : Hp} {io : List Addr} {M : Mem}
theorem HA.dicK (h : HA K F io H M) {d : D} {v : V} {ks : List Key} {ds : List D} (r : Rel K F io d v) (e : dicK M d = some (ks, ds)) : ∃ a kvs, v = .ref a ∧ H a = some (.dK kvs) ∧ kvs.map (·.1) = ks ∧ RelL K F io ds (kvs.map (·.2)) := by
  cases d with
  | dic ks' ds' =>
    cases e
    obtain ⟨a, kvs, q, q1, q2, q3⟩ := (show ∃ a kvs, _ = V.ref a ∧ F a = some (.dK kvs) ∧ kvs.map (·.1) = _ ∧ RelL K F io _ (kvs.map (·.2)) from r)
    exact ⟨a, kvs, q, h.sub _ _ q1, q2, q3⟩
  | ref i =>
    obtain ⟨a, q, q1⟩ := (show ∃ a, _ = V.ref a ∧ io[i]? = some a from r)
    rw [Pc.dicK] at e
    cases hm : M[i]? with
    | none => rw [hm] at e; cases e
    | some o =>
      rw [hm] at e
      cases o with
      | dk ks' ds' =>
        cases e
        obtain ⟨a', e1, e2, kvs, e3, e4, e5⟩ := h.at_ i _ hm
        rw [q1] at e1
        cases e1
        exact ⟨a, kvs, q, e3, e4, e5⟩
      | _ => cases e
  | _ => cases e
theorem HA.dicT (h : HA K F io H M) {d : D} {v : V} {ks : List (List Key)} {ds : List D} (r : Rel K F io d v) (e : dicT M d = some (ks, ds)) : ∃ a kvs, v = .ref a ∧ H a = some (.dT kvs) ∧ kvs.map (·.1) = ks ∧ RelL K F io ds (kvs.map (·.2)) := by
  cases d with
  | dit ks' ds' =>
    cases e
    obtain ⟨a, kvs, q, q1, q2, q3⟩ := (show ∃ a kvs, _ = V.ref a ∧ F a = some (.dT kvs) ∧ kvs.map (·.1) = _ ∧ RelL K F io _ (kvs.map (·.2)) from r)
    exact ⟨a, kvs, q, h.sub _ _ q1, q2, q3⟩
  | ref i =>
    obtain ⟨a, q, q1⟩ := (show ∃ a, _ = V.ref a ∧ io[i]? = some a from r)
    rw [Pc.dicT] at e
    cases hm : M[i]? with
    | none => rw [hm] at e; cases e
    | some o =>
      rw [hm] at e
      cases o with
      | dt ks' ds' =>
        cases e
        obtain ⟨a', e1, e2, kvs, e3, e4, e5⟩ := h.at_ i _ hm
        rw [q1] at e1
        cases e1
        exact ⟨a, kvs, q, e3, e4, e5⟩
      | _ => cases e
  | _ => cases e
/-- a tuple key must stand tracked, not in the written part -/
theorem HA.keyT (h : HA K F io H M) {d : D} {v : V} {k : List Key} (r : Rel K F io d v) (e : d.keyT = some k) : ∃ b, v = .ref b ∧ H b = some (.tup (k.map kV)) := by
  cases d with
  | tup xs =>
    obtain ⟨a, vs, q, q1, q2⟩ := h.tup' r
    rw [keys_rel q2 e] at q1
    exact ⟨a, q, q1⟩
  | _ => cases e
end
end Pc

set_option Elab.async false
set_option linter.all false
set_option maxRecDepth 100000
set_option maxHeartbeats 1000000
set_option autoImplicit false
/-! Pc4: comparisons are right -/
namespace Pc
open PySem PySem.Spec PyProof.Rows L2

section
variable {X : Cx}
theorem rB_some {b : Bool} {o : Option Bool} {K : PySem.W.Frag} {W : WX} {F H : Hp} {io : List Addr} {M : Mem} {σ : St} {Q : VK} (h : HA K F io H M) (p : PostE K W F io H σ Q (rB o M)) (e : o = some b) : Q (.bl b) H := by
  subst e
  exact post_val p h rfl
theorem rB_ex {o : Option Bool} {K : PySem.W.Frag} {W : WX} {F H : Hp} {io : List Addr} {M : Mem} {σ : St} {Q : VK} (p : PostE K W F io H σ Q (rB o M)) : ∃ b, o = some b := by
  cases o with
  | none => exact p.elim
  | some b => exact ⟨b, rfl⟩
theorem eqO_some {d1 d2 : D} {M : Mem} {b : Bool} (e : eqO d1 d2 M = some b) : ∃ p q, d1.py M = some p ∧ d2.py M = some q ∧ SeqAt.shaped p = true ∧ SeqAt.shaped q = true ∧ b = PyData.eqv p q := by
  unfold eqO at e
  cases h1 : d1.py M with
  | none => rw [h1] at e; cases e
  | some p =>
    cases h2 : d2.py M with
    | none => rw [h1, h2] at e; cases e
    | some q =>
      rw [h1, h2] at e
      dsimp only at e
      split at e
      · rename_i hs
        exact ⟨p, q, rfl, rfl, hs.1, hs.2, (Option.some.inj e).symm⟩
      · cases e
theorem cmp_eq (hu : X.A.units + 64 < cLine) : OpR X (compareOp .Eq) (rBin X.K eqS) := by
  intro pins s σ H x y v u Q I rx ry h
  obtain ⟨F, io, M, d1, d2, W, σ', ha, r1, r2, p⟩ := h
  obtain ⟨b, e⟩ := rB_ex p
  have q := rB_some ha p e
  obtain ⟨p1, p2, e1, e2, s1, s2, rfl⟩ := eqO_some e
  exact op_eqD hu pins s σ H x y v u Q I rx ry ⟨p1, p2, ha.dp r1 e1, ha.dp r2 e2, s1, s2, q⟩
theorem cmp_ne (hu : X.A.units + 64 < cLine) : OpR X (compareOp .NotEq) (rBin X.K neS) := by
  intro pins s σ H x y v u Q I rx ry h
  obtain ⟨F, io, M, d1, d2, W, σ', ha, r1, r2, p⟩ := h
  obtain ⟨b, e⟩ := rB_ex p
  have q := rB_some ha p e
  cases e0 : eqO d1 d2 M with
  | none => rw [e0] at e; cases e
  | some c =>
    rw [e0] at e
    cases e
    obtain ⟨p1, p2, e1, e2, s1, s2, rfl⟩ := eqO_some e0
    exact op_neD hu pins s σ H x y v u Q I rx ry ⟨p1, p2, ha.dp r1 e1, ha.dp r2 e2, s1, s2, q⟩
theorem cmp_int {op : CmpOp} {g : Int → Int → Bool} {f : D → D → Option Bool} (ho : OpR X (compareOp op) (rI0 fun i j => .bl (g i j)))
    (hf : ∀ d1 d2 b, f d1 d2 = some b → ∃ i j, d1 = .int i ∧ d2 = .int j ∧ b = g i j) : OpR X (compareOp op) (rBin X.K fun a b M => rB (f a b) M) := by
  intro pins s σ H x y v u Q I rx ry h
  obtain ⟨F, io, M, d1, d2, W, σ', ha, r1, r2, p⟩ := h
  obtain ⟨b, e⟩ := rB_ex p
  have q := rB_some ha p e
  obtain ⟨i, j, rfl, rfl, rfl⟩ := hf _ _ _ e
  obtain rfl := (show x = V.int i from r1)
  obtain rfl := (show y = V.int j from r2)
  exact ho pins s σ H _ _ v u Q I rx ry ⟨i, j, rfl, rfl, q⟩
theorem ltO_some {d1 d2 : D} {b : Bool} (e : ltO d1 d2 = some b) : ∃ i j, d1 = .int i ∧ d2 = .int j ∧ b = decide (i < j) := by
  unfold ltO at e
  split at e
  · exact ⟨_, _, rfl, rfl, (Option.some.inj e).symm⟩
  · cases e
theorem leO_some {d1 d2 : D} {b : Bool} (e : leO d1 d2 = some b) : ∃ i j, d1 = .int i ∧ d2 = .int j ∧ b = decide (i ≤ j) := by
  unfold leO at e
  split at e
  · exact ⟨_, _, rfl, rfl, (Option.some.inj e).symm⟩
  · cases e
theorem cmp_lt : OpR X (compareOp .Lt) (rBin X.K (cmpS .Lt)) := cmp_int (f := ltO) op_lt fun _ _ _ e => ltO_some e
theorem cmp_le : OpR X (compareOp .LtE) (rBin X.K (cmpS .LtE)) := cmp_int (f := leO) op_le fun _ _ _ e => leO_some e
theorem cmp_gt : OpR X (compareOp .Gt) (rBin X.K (cmpS .Gt)) := cmp_int (f := fun a b => ltO b a) op_gt fun _ _ _ e => by
  obtain ⟨i, j, h1, h2, h3⟩ := ltO_some e; exact ⟨j, i, h2, h1, h3⟩
theorem cmp_ge : OpR X (compareOp .GtE) (rBin X.K (cmpS .GtE)) := cmp_int (f := fun a b => leO b a) op_ge fun _ _ _ e => by
  obtain ⟨i, j, h1, h2, h3⟩ := leO_some e; exact ⟨j, i, h2, h1, h3⟩
theorem isO_some {K : PySem.W.Frag} {F : Hp} {io : List Addr} {d1 d2 : D} {x y : V} {b : Bool} (r1 : Rel K F io d1 x) (r2 : Rel K F io d2 y) (e : isO d1 d2 = some b) : y = .non ∧ b = decide (x = .non) := by
  unfold isO at e
  split at e
  · obtain rfl := (show x = .non from r1)
    cases e
    exact ⟨r2, rfl⟩
  · rename_i hn
    cases e
    refine ⟨r2, (decide_eq_false ?_).symm⟩
    intro ex
    subst ex
    cases d1 with
    | non => exact hn rfl
    | bl b => cases (show V.non = V.bl b from r1)
    | int b => cases (show V.non = V.int b from r1)
    | str b => cases (show V.non = V.str b from r1)
    | tup xs => obtain ⟨a, vs, e, _⟩ := (show ∃ a vs, V.non = V.ref a ∧ _ from r1); cases e
    | ctup xs => obtain ⟨a, vs, e, _⟩ := (show ∃ a vs, V.non = V.ref a ∧ _ from r1); cases e
    | lst xs => obtain ⟨a, vs, e, _⟩ := (show ∃ a vs, V.non = V.ref a ∧ _ from r1); cases e
    | ref i => obtain ⟨a, e, _⟩ := (show ∃ a, V.non = V.ref a ∧ _ from r1); cases e
    | obj c ns ds => obtain ⟨a, dx, fvs, e, _⟩ := (show ∃ a dx fvs, V.non = V.ref a ∧ _ from r1); cases e
    | dic c ns => obtain ⟨a, vs, e, _⟩ := (show ∃ a vs, V.non = V.ref a ∧ _ from r1); cases e
    | dit c ns => obtain ⟨a, vs, e, _⟩ := (show ∃ a vs, V.non = V.ref a ∧ _ from r1); cases e
    | scr ns => obtain ⟨a, e, _⟩ := (show ∃ a, V.non = V.ref a ∧ _ from r1); cases e
    | fn f => cases (show V.non = V.ref _ from r1)
    | exo c ns ds => obtain ⟨a, dx, fvs, e, _⟩ := (show ∃ a dx fvs, V.non = V.ref a ∧ _ from r1); cases e
  · cases e
theorem cmp_is : OpR X (compareOp .Is) (rBin X.K (cmpS .Is)) := by
  intro pins s σ H x y v u Q I rx ry h
  obtain ⟨F, io, M, d1, d2, W, σ', ha, r1, r2, p⟩ := h
  obtain ⟨b, e⟩ := rB_ex p
  have q := rB_some ha p e
  obtain ⟨e1, rfl⟩ := isO_some r1 r2 e
  exact op_isN pins s σ H x y v u Q I rx ry ⟨e1, q⟩
theorem cmp_isnot : OpR X (compareOp .IsNot) (rBin X.K (cmpS .IsNot)) := by
  intro pins s σ H x y v u Q I rx ry h
  obtain ⟨F, io, M, d1, d2, W, σ', ha, r1, r2, p⟩ := h
  obtain ⟨b, e⟩ := rB_ex p
  have q := rB_some ha p e
  cases e0 : isO d1 d2 with
  | none => rw [e0] at e; cases e
  | some c =>
    rw [e0] at e
    cases e
    obtain ⟨e1, rfl⟩ := isO_some r1 r2 e0
    exact op_notN pins s σ H x y v u Q I rx ry ⟨e1, q⟩
/-! ### in -/
theorem flat_rel {K : PySem.W.Frag} {F : Hp} {io : List Addr} {d : D} {x : V} (f : flatD d = true) (r : Rel K F io d x) : flatV x = true := by
  cases d with
  | non => rw [show x = .non from r]; rfl
  | bl b => rw [show x = .bl b from r]; rfl
  | int b => rw [show x = .int b from r]; rfl
  | str b => rw [show x = .str b from r]; rfl
  | _ => cases f
theorem flats_rel {K : PySem.W.Frag} {F : Hp} {io : List Addr} : ∀ {ds : List D} {vs : List V}, ds.all flatD = true → RelL K F io ds vs → vs.all flatV = true
  | [], _, _, h => by rw [show _ = [] from h]; rfl
  | d :: ds, _, f, h => by
    obtain ⟨v, r, rfl, h1, h2⟩ := (show ∃ v r, _ = v :: r ∧ Rel K F io d v ∧ RelL K F io ds r from h)
    rw [List.all_cons, Bool.and_eq_true] at f ⊢
    exact ⟨flat_rel f.1 h1, flats_rel f.2 h2⟩
theorem eqV_py {K : PySem.W.Frag} {F : Hp} {io : List Addr} {d e : D} {x y : V} {p q : PyData} (fd : flatD d = true) (fe : flatD e = true) (r1 : Rel K F io d x) (r2 : Rel K F io e y) (h1 : d.py0 = some p) (h2 : e.py0 = some q) : eqV x y = PyData.eqv p q := by
  cases d with
  | non => rw [show x = .non from r1]; cases h1; cases e with
    | non => rw [show y = .non from r2]; cases h2; simp [eqV, PyData.eqv]
    | bl b => rw [show y = .bl b from r2]; cases h2; simp [eqV, PyData.eqv]
    | int b => rw [show y = .int b from r2]; cases h2; simp [eqV, PyData.eqv]
    | str b => rw [show y = .str b from r2]; cases h2; simp [eqV, PyData.eqv]
    | _ => cases fe
  | bl a => rw [show x = .bl a from r1]; cases h1; cases e with
    | non => rw [show y = .non from r2]; cases h2; simp [eqV, PyData.eqv]
    | bl b => rw [show y = .bl b from r2]; cases h2; simp [eqV, PyData.eqv]
    | int b => rw [show y = .int b from r2]; cases h2; simp [eqV, PyData.eqv]
    | str b => rw [show y = .str b from r2]; cases h2; simp [eqV, PyData.eqv]
    | _ => cases fe
  | int a => rw [show x = .int a from r1]; cases h1; cases e with
    | non => rw [show y = .non from r2]; cases h2; simp [eqV, PyData.eqv]
    | bl b => rw [show y = .bl b from r2]; cases h2; simp [eqV, PyData.eqv]
    | int b => rw [show y = .int b from r2]; cases h2; simp [eqV, PyData.eqv]
    | str b => rw [show y = .str b from r2]; cases h2; simp [eqV, PyData.eqv]
    | _ => cases fe
  | str a => rw [show x = .str a from r1]; cases h1; cases e with
    | non => rw [show y = .non from r2]; cases h2; simp [eqV, PyData.eqv]
    | bl b => rw [show y = .bl b from r2]; cases h2; simp [eqV, PyData.eqv]
    | int b => rw [show y = .int b from r2]; cases h2; simp [eqV, PyData.eqv]
    | str b => rw [show y = .str b from r2]; cases h2; simp [eqV, PyData.eqv]
    | _ => cases fe
  | _ => cases fd
theorem pyL_cons {d : D} {ds : List D} {l : List PyData} (e : pyL (d :: ds) = some l) : ∃ p r, d.py0 = some p ∧ pyL ds = some r ∧ l = p :: r := by
  rw [pyL] at e
  cases h1 : d.py0 with
  | none => rw [h1] at e; cases e
  | some p =>
    rw [h1] at e
    cases h2 : pyL ds with
    | none => dsimp only at e; rw [h2] at e; cases e
    | some r => dsimp only at e; rw [h2] at e; cases e; exact ⟨p, r, rfl, rfl, rfl⟩
theorem inV_py {K : PySem.W.Frag} {F : Hp} {io : List Addr} {d : D} {x : V} {p : PyData} (fd : flatD d = true) (r1 : Rel K F io d x) (h1 : d.py0 = some p) :
    ∀ {ds : List D} {vs : List V} {l : List PyData}, ds.all flatD = true → RelL K F io ds vs → pyL ds = some l → inV x vs = l.any fun z => PyData.eqv z p
  | [], _, _, _, h, e => by cases e; rw [show _ = [] from h]; rfl
  | e :: ds, _, l, f, h, g => by
    obtain ⟨v, r, rfl, h3, h2⟩ := (show ∃ v r, _ = v :: r ∧ Rel K F io e v ∧ RelL K F io ds r from h)
    rw [List.all_cons, Bool.and_eq_true] at f
    obtain ⟨q, t, g1, g2, rfl⟩ := pyL_cons g
    have ih := inV_py fd r1 h1 f.2 h2 g2
    unfold inV at ih ⊢
    rw [List.any_cons, List.any_cons, ih, eqV_py f.1 fd h3 r1 g1 h1]
theorem Str.one {a : Str} {c : Nat} (h : a.cps.toList = [c]) : a = ⟨#[c]⟩ := TL.ext_tl h
inductive InCase (X : Cx) (H : Hp) (x y : V) (b : Bool) : Prop
  | sign (c : Nat) (z : Str) : x = .str ⟨#[c]⟩ → y = .str z → b = decide (c ∈ z.cps.toList) → InCase X H x y b
  | text (a z : Str) : x = .str a → y = .str z → b = (!(Builtin.Str.occurrences z a 0 z.length 1).isEmpty) → InCase X H x y b
  | flat (p : Addr) (xs : List V) : y = .ref p → (SqL X.K H p xs ∨ SqT X.K H p xs) → flatV x = true → xs.all flatV = true → b = inV x xs → InCase X H x y b
  | deep (d : PyData) (ds : List PyData) : Dp X.K H x d → Dp X.K H y (.list ds) → SeqAt.shaped d = true → SeqAt.shaped (.list ds) = true → b = (ds.any fun z => PyData.eqv z d) → InCase X H x y b
  | dict (a : Addr) (o : Option V) : y = .ref a → DGet H a x o → b = o.isSome → InCase X H x y b
theorem dGet_rel {K : PySem.W.Frag} {F H : Hp} {io : List Addr} {M : Mem} {d k : D} {y x : V} {o : Option D} (ha : HA K F io H M) (r1 : Rel K F io d y) (r2 : Rel K F io k x) (e : dGet M d k = some o) :
    ∃ a ov, y = .ref a ∧ DGet H a x ov ∧ (∀ v, o = some v → ∃ u, ov = some u ∧ Rel K F io v u) ∧ (o = none → ov = none) := by
  have tcase : ∀ ks ds j, dicT M d = some (ks, ds) → k.keyT = some j → o = lookD ks ds j → ∃ a ov, y = .ref a ∧ DGet H a x ov ∧ (∀ v, o = some v → ∃ u, ov = some u ∧ Rel K F io v u) ∧ (o = none → ov = none) := by
    intro ks ds j h1 h2 h3
    obtain ⟨a, kvs, rfl, g1, rfl, g3⟩ := ha.dicT r1 h1
    obtain ⟨b, rfl, hb⟩ := ha.keyT r2 h2
    obtain ⟨l1, l2⟩ := lookD_val (k := j) g3
    refine ⟨a, valV kvs j, rfl, DGet.t g1 hb, fun v hv => l1 v (h3 ▸ hv), fun hn => l2 (h3 ▸ hn)⟩
  unfold dGet at e
  split at e
  · rename_i ks ds j h1 h2
    obtain ⟨a, kvs, rfl, g1, rfl, g3⟩ := ha.dicK r1 h1
    have ek := key_rel r2 h2
    subst ek
    obtain ⟨l1, l2⟩ := lookD_val (k := j) g3
    cases e
    exact ⟨a, valV kvs j, rfl, DGet.k g1, l1, l2⟩
  · split at e
    · rename_i ks ds j h1 h2
      cases e
      exact tcase ks ds j h1 h2 rfl
    · cases e
theorem in_case {F H : Hp} {io : List Addr} {M : Mem} {d1 d2 : D} {x y : V} {b : Bool} (ha : HA X.K F io H M) (r1 : Rel X.K F io d1 x) (r2 : Rel X.K F io d2 y) (e : inO d1 d2 M = some b) : InCase X H x y b := by
  have tupc : ∀ xs, (∃ a vs, y = .ref a ∧ SqT X.K H a vs ∧ RelL X.K F io xs vs) → (if flatD d1 = true ∧ xs.all flatD = true then (match d1.py0, pyL xs with
    | some p, some l => some (l.any fun z => PyData.eqv z p)
    | _, _ => none) else none) = some b → InCase X H x y b := by
    intro xs ht e
    split at e
    · rename_i hf
      split at e
      · rename_i p l h1 h2
        obtain ⟨a, vs, rfl, g1, g2⟩ := ht
        exact .flat a vs rfl (.inr g1) (flat_rel hf.1 r1) (flats_rel hf.2 g2) (by rw [inV_py hf.1 r1 h1 hf.2 g2 h2]; exact (Option.some.inj e).symm)
      · cases e
    · cases e
  unfold inO at e
  split at e
  · rename_i a z
    split at e
    · rename_i c hc
      exact .sign c z (by rw [← Str.one hc]; exact r1) r2 (Option.some.inj e).symm
    · exact .text a z r1 r2 (Option.some.inj e).symm
  · rename_i xs
    obtain ⟨a, vs, q, q1, q2⟩ := ha.seqT r2 (xs := xs) rfl
    exact tupc xs ⟨a, vs, q, q1, q2⟩ e
  · rename_i xs
    obtain ⟨a, vs, q, q1, q2⟩ := ha.seqT r2 (xs := xs) rfl
    exact tupc xs ⟨a, vs, q, q1, q2⟩ e
  · split at e
    · rename_i xs hs
      split at e
      · rename_i p l h1 h2
        split at e
        · rename_i hz
          obtain ⟨a, vs, rfl, g1, g2⟩ := ha.lst r2 hs
          exact .deep p l (ha.dp r1 h1) (.lst (.of g1) (relL_dp ha.sub xs vs l g2 h2)) hz.1 hz.2 (Option.some.inj e).symm
        · cases e
      · cases e
    · cases h : dGet M d2 d1 with
      | none => rw [h] at e; cases e
      | some o =>
        rw [h] at e
        cases e
        obtain ⟨a, ov, rfl, g, g1, g2⟩ := dGet_rel ha r2 r1 h
        refine .dict a ov rfl g ?_
        cases o with
        | none => rw [g2 rfl]; rfl
        | some v => obtain ⟨u, hu, _⟩ := g1 v rfl; rw [hu]; rfl
theorem cmp_in (hu : X.A.units + 65 < cLine) : OpR X (compareOp .In) (rBin X.K (cmpS .In)) := by
  intro pins s σ H x y v u Q I rx ry h
  obtain ⟨F, io, M, d1, d2, W, σ', ha, r1, r2, p⟩ := h
  obtain ⟨b, e⟩ := rB_ex p
  have q := rB_some ha p e
  cases in_case ha r1 r2 e with
  | sign c z e1 e2 e3 => subst e3; exact op_in_sign pins s σ H x y v u Q I rx ry ⟨c, z, e1, e2, q⟩
  | text a z e1 e2 e3 => subst e3; exact op_in_str pins s σ H x y v u Q I rx ry ⟨a, z, e1, e2, q⟩
  | flat a xs e1 e2 e3 e4 e5 => subst e5; exact op_in_seq pins s σ H x y v u Q I rx ry ⟨a, xs, e1, e2, e3, e4, q⟩
  | deep d ds e1 e2 e3 e4 e5 => subst e5; exact op_inD hu pins s σ H x y v u Q I rx ry ⟨d, ds, e1, e2, e3, e4, q⟩
  | dict a o e1 e2 e3 =>
    subst e1 e3
    obtain rfl : u = Value.ref a := ry
    exact d_in (by omega) I e2 rx fun s' I' => ⟨.bl o.isSome, H, I', rfl, q⟩
theorem cmp_notin (hu : X.A.units + 65 < cLine) : OpR X (compareOp .NotIn) (rBin X.K (cmpS .NotIn)) := by
  intro pins s σ H x y v u Q I rx ry h
  obtain ⟨F, io, M, d1, d2, W, σ', ha, r1, r2, p⟩ := h
  obtain ⟨b, e⟩ := rB_ex p
  have q := rB_some ha p e
  cases e0 : inO d1 d2 M with
  | none => rw [e0] at e; cases e
  | some c =>
    rw [e0] at e
    cases e
    cases in_case ha r1 r2 e0 with
    | sign c z e1 e2 e3 => subst e3; exact op_notIn_sign pins s σ H x y v u Q I rx ry ⟨c, z, e1, e2, q⟩
    | text a z e1 e2 e3 => subst e3; exact op_notin_str pins s σ H x y v u Q I rx ry ⟨a, z, e1, e2, q⟩
    | flat a xs e1 e2 e3 e4 e5 => subst e5; exact op_notIn_seq pins s σ H x y v u Q I rx ry ⟨a, xs, e1, e2, e3, e4, q⟩
    | deep d ds e1 e2 e3 e4 e5 => subst e5; exact op_notInD hu pins s σ H x y v u Q I rx ry ⟨d, ds, e1, e2, e3, e4, q⟩
    | dict a o e1 e2 e3 =>
      subst e1 e3
      obtain rfl : u = Value.ref a := ry
      exact d_notIn (by omega) I e2 rx fun s' I' => ⟨.bl (!o.isSome), H, I', rfl, q⟩
theorem cmp_any (hu : X.A.units + 65 < cLine) : ∀ (op : CmpOp), OpR X (compareOp op) (rBin X.K (cmpS op))
  | .Eq => cmp_eq (by omega) | .NotEq => cmp_ne (by omega) | .Lt => cmp_lt | .LtE => cmp_le | .Gt => cmp_gt | .GtE => cmp_ge
  | .In => cmp_in hu | .NotIn => cmp_notin hu | .Is => cmp_is | .IsNot => cmp_isnot
end
end Pc

set_option Elab.async false
set_option linter.all false
set_option maxRecDepth 100000
set_option maxHeartbeats 1000000
set_option autoImplicit false
/-! Pc5: argument lists, displays, truth, boolean operators, conditional expressions -/
namespace Pc
open PySem PySem.Spec PyProof.Rows L2

/-! ### argument lists -/
def mNil : MDs := fun _ M => .ok [] M
def mCons (m : ME) (ms : MDs) : MDs := fun env M => (mD m env M).bind fun d M1 => (ms env M1).bind fun ds M2 => .ok (d :: ds) M2
/-- *e in a list of arguments -/
def mStar (m : ME) (ms : MDs) : MDs := fun env M => (mD m env M).bind fun d M1 => match seqA M1 d with
  | some xs => (ms env M1).bind fun ds M2 => .ok (xs ++ ds) M2
  | none => .stuck

section
variable {K : PySem.W.Frag} {W : WX} {σ : St} {H : Hp}
theorem PostDs.mono {F : Hp} {io : List Addr} {Q Q' : List V → Hp → Prop} {r : R (List D)} (h : PostDs K W F io H σ Q r) (hq : ∀ v H', Q v H' → Q' v H') : PostDs K W F io H σ Q' r := by
  cases r with
  | ok rv M' => exact fun F' io' H' v a b c => hq _ _ (h F' io' H' v a b c)
  | exc c ns ds M' => exact h
  | stuck => exact h
/-- a value, then more: into a list's end -/
theorem tDs_bind {m : MD} {k : D → Sl → Mem → R (List D)} {Q : List V → Hp → Prop} {r : V → Hp → Prop} (h : tDs K W (fun env M => (m env M).bind fun d M1 => k d env M1) σ H Q)
    (hr : ∀ d M1 F1 io1 H1 x env, HA K F1 io1 H1 M1 → ER K F1 io1 σ env → Rel K F1 io1 d x → PostDs K W F1 io1 H1 σ Q (k d env M1) → r x H1) : tD K W m σ H r := by
  obtain ⟨F, io, env, M, ha, er, p⟩ := h
  refine ⟨F, io, env, M, ha, er, ?_⟩
  dsimp only at p
  cases q : m env M with
  | stuck => rw [q] at p; exact p
  | exc c ns ds M' => rw [q] at p; exact p
  | ok d M1 =>
    rw [q] at p
    intro F1 io1 H1 x a b c
    exact hr d M1 F1 io1 H1 x env a (er.mono b.sub b.ids) c (PostDs.from_ b p)
theorem postDs_cons {F : Hp} {io : List Addr} {xs : List D} {vs : List V} {ms : MDs} {env : Sl} {M : Mem} {Q : List V → Hp → Prop} (ha : HA K F io H M) (er : ER K F io σ env) (rl : RelL K F io xs vs)
    (p : PostDs K W F io H σ Q ((ms env M).bind fun ds M2 => .ok (xs ++ ds) M2)) : tDs K W ms σ H fun us H2 => Q (vs ++ us) H2 := by
  refine ⟨F, io, env, M, ha, er, ?_⟩
  cases q : ms env M with
  | stuck => rw [q] at p; exact p
  | exc c ns ds M' => rw [q] at p; exact p
  | ok ds M2 =>
    rw [q] at p
    intro F2 io2 H2 us a b c
    exact p F2 io2 H2 _ a b ((RelL.mono b.sub b.ids _ _ rl).append c)
/-- values, then a result -/
theorem tDs_then {ms : MDs} {k : List D → Mem → R RV} {Q : VK} {r : List V → Hp → Prop} (h : tE K W (fun env M => (ms env M).bind k) σ H Q)
    (hr : ∀ ds M1 F1 io1 H1 xs env, HA K F1 io1 H1 M1 → ER K F1 io1 σ env → RelL K F1 io1 ds xs → PostE K W F1 io1 H1 σ Q (k ds M1) → r xs H1) : tDs K W ms σ H r := by
  obtain ⟨F, io, env, M, ha, er, p⟩ := h
  refine ⟨F, io, env, M, ha, er, ?_⟩
  dsimp only at p
  cases q : ms env M with
  | stuck => rw [q] at p; exact p
  | exc c ns ds M' => rw [q] at p; exact p
  | ok ds M1 =>
    rw [q] at p
    intro F1 io1 H1 xs a b c
    exact hr ds M1 F1 io1 H1 xs env a (er.mono b.sub b.ids) c (PostE.from_ b p)
/-- a value, then a result that may look at the names -/
theorem tD_then {m : MD} {k : D → Sl → Mem → R RV} {Q : VK} {r : V → Hp → Prop} (h : tE K W (fun env M => (m env M).bind fun d M1 => k d env M1) σ H Q)
    (hr : ∀ d M1 F1 io1 H1 x env, HA K F1 io1 H1 M1 → ER K F1 io1 σ env → Rel K F1 io1 d x → PostE K W F1 io1 H1 σ Q (k d env M1) → r x H1) : tD K W m σ H r := by
  obtain ⟨F, io, env, M, ha, er, p⟩ := h
  refine ⟨F, io, env, M, ha, er, ?_⟩
  dsimp only at p
  cases q : m env M with
  | stuck => rw [q] at p; exact p
  | exc c ns ds M' => rw [q] at p; exact p
  | ok d M1 =>
    rw [q] at p
    intro F1 io1 H1 x a b c
    exact hr d M1 F1 io1 H1 x env a (er.mono b.sub b.ids) c (PostE.from_ b p)
end
section
variable {X : Cx} {W : WX} {e : Expr} {es : List Expr}
theorem am_nil : PA X [] (tDs X.K W mNil) := PA.imp' pa_nil fun σ H Q h => by
  obtain ⟨F, io, env, M, ha, er, p⟩ := h
  exact p F io H [] ha .refl rfl
theorem am_cons {m : ME} {ms : MDs} (he : PE X e (tE X.K W m)) (hr : PA X es (tDs X.K W ms)) (hs : starEach (e :: es) X.env = (false, eval e X.env) :: starEach es X.env) : PA X (e :: es) (tDs X.K W (mCons m ms)) :=
  PA.imp' (pa_cons (pe_d he) hr hs) fun σ H Q h =>
    tDs_bind (k := fun d env M1 => (ms env M1).bind fun ds M2 => .ok (d :: ds) M2) h fun d M1 F1 io1 H1 x env a b c p =>
      postDs_cons (xs := [d]) (vs := [x]) a b ⟨x, [], rfl, c, rfl⟩ p
theorem am_star {p : Pos} {m : ME} {ms : MDs} (he : PE X e (tE X.K W m)) (hr : PA X es (tDs X.K W ms)) : PA X (.Starred e p :: es) (tDs X.K W (mStar m ms)) :=
  PA.imp' (StX.pa_star (pe_d he) hr (by rfl)) fun σ H Q h =>
    tDs_bind (k := fun d env M1 => match seqA M1 d with
      | some xs => (ms env M1).bind fun ds M2 => .ok (xs ++ ds) M2
      | none => .stuck) h fun d M1 F1 io1 H1 x env a b c p => by
      split at p
      · rename_i xs hx
        obtain ⟨l, vs, rfl, q, r⟩ := a.seqA c hx
        exact ⟨l, vs, rfl, q.symm, postDs_cons a b r p⟩
      · exact p.elim
/-! ### displays -/
def mTup (ms : MDs) : ME := fun env M => (ms env M).bind fun ds M1 => if ds.length ≤ sizeLine then .ok (.val (.tup ds)) M1 else .stuck
def mLst (ms : MDs) : ME := fun env M => (ms env M).bind fun ds M1 => if ds.length ≤ sizeLine then .ok (.own (.lst ds)) M1 else .stuck
theorem pm_tup {ms : MDs} {k : Nat} {pos : Pos} (h : PA X es (tDs X.K W ms)) : PE X (.Tuple es k pos) (tE X.K W (mTup ms)) :=
  PE.imp' (pe_tup h) fun σ H Q h => tDs_then h fun ds M1 F1 io1 H1 xs env a b c p => by
    split at p
    · rename_i hz
      exact ⟨by rw [← c.length]; exact hz, fun q hq => post_tup p a c hq⟩
    · exact p.elim
theorem pm_lst {ms : MDs} {pos : Pos} (h : PA X es (tDs X.K W ms)) : PE X (.List es pos) (tE X.K W (mLst ms)) :=
  PE.imp' (pe_lst h) fun σ H Q h => tDs_then h fun ds M1 F1 io1 H1 xs env a b c p => by
    split at p
    · rename_i hz
      exact ⟨by rw [← c.length]; exact hz, fun q hq => post_lst p a c hq⟩
    · exact p.elim
/-! ### names, constants -/
def mVal (d : D) : ME := fun _ M => .ok (.val d) M
def mVar (i : Nat) : ME := fun env M => match env[i]? with
  | some (some d) => .ok (.val d) M
  | _ => .stuck
def mStuck : ME := fun _ _ => .stuck
theorem pm_stuck {e : Expr} : PE X e (tE X.K W mStuck) := ⟨fun pins s σ H Q I h => by
  obtain ⟨F, io, env, M, ha, er, p⟩ := h
  exact p.elim⟩
theorem pm_const {d : D} {v : V} (h : PE X e (tC v)) (r : ∀ F io, Rel X.K F io d v) : PE X e (tE X.K W (mVal d)) := PE.imp' h fun σ H Q h => by
  obtain ⟨F, io, env, M, ha, er, p⟩ := h
  exact post_val p ha (r F io)
theorem pm_var {i : Nat} {x : Str} {pos : Pos} (hN : X.N[i]? = some x) (hv : Vis X.env.scope x) (h1 : (x == ("__debug__" : Str)) = false) (h2 : (x == ("__classdict__" : Str)) = false) : PE X (.Name x pos) (tE X.K W (mVar i)) :=
  PE.imp' (pe_var hN hv h1 h2) fun σ H Q h => by
    obtain ⟨F, io, env, M, ha, er, p⟩ := h
    unfold mVar at p
    split at p
    · rename_i d e
      obtain ⟨v, q, r⟩ := er.2 i d e
      exact ⟨v, q, post_val p ha r⟩
    · exact p.elim
/-! ### truth -/
def truO (d : D) (M : Mem) : Option Bool := match d with
  | .non => some false
  | .bl b => some b
  | .int i => some (i != 0)
  | .str x => if x.length ≤ sizeLine then some ((x.length : Int) != 0) else none
  | .tup xs => some (!xs.isEmpty)
  | .ctup xs => some (!xs.isEmpty)
  | .dic ks ds => some (!ks.isEmpty)
  | .lst xs => some (!xs.isEmpty)
  | .ref i => match M[i]? with
    | some (.lst xs) => some (!xs.isEmpty)
    | some (.dk ks ds) => some (!ks.isEmpty)
    | _ => none
  | _ => none
theorem isEmpty_len {α β : Type} {xs : List α} {ys : List β} (h : xs.length = ys.length) : xs.isEmpty = ys.isEmpty := by
  cases xs <;> cases ys <;> simp_all
theorem tru_rel {K : PySem.W.Frag} {F H : Hp} {io : List Addr} {M : Mem} {d : D} {x : V} {b : Bool} (ha : HA K F io H M) (r : Rel K F io d x) (e : truO d M = some b) : TruV K x H b := by
  cases d with
  | non => cases e; rw [show x = .non from r]; rfl
  | bl c =>
    rw [show x = .bl c from r]
    exact (Option.some.inj e).symm
  | int i => cases e; rw [show x = .int i from r]; rfl
  | str z =>
    rw [show x = .str z from r]
    unfold truO at e
    dsimp only at e
    split at e
    · rename_i hz; cases e; exact ⟨hz, rfl⟩
    · cases e
  | tup xs =>
    cases e
    obtain ⟨a, vs, rfl, q, l⟩ := ha.tup r
    exact .inr (.inl ⟨vs, q, by rw [isEmpty_len l.length]⟩)
  | ctup xs =>
    cases e
    obtain ⟨a, vs, rfl, q, l⟩ := ha.seqT (xs := xs) r rfl
    exact .inr (.inl ⟨vs, q, by rw [isEmpty_len l.length]⟩)
  | lst xs =>
    cases e
    obtain ⟨a, vs, rfl, q, l⟩ := ha.lst (xs := xs) r rfl
    exact .inl ⟨vs, .of q, by rw [isEmpty_len l.length]⟩
  | dic ks ds =>
    cases e
    obtain ⟨a, kvs, rfl, q, n, l⟩ := ha.dicK (ks := ks) (ds := ds) r rfl
    exact .inr (.inr ⟨kvs, q, by rw [← n, isEmpty_len (List.length_map ..)]⟩)
  | ref i =>
    unfold truO at e
    dsimp only at e
    split at e
    · rename_i xs hm
      cases e
      obtain ⟨a, vs, rfl, q, l⟩ := ha.lst (xs := xs) r (by rw [seqL, hm])
      exact .inl ⟨vs, .of q, by rw [isEmpty_len l.length]⟩
    · rename_i ks ds hm
      cases e
      obtain ⟨a, kvs, rfl, q, n, l⟩ := ha.dicK (ks := ks) (ds := ds) r (by rw [Pc.dicK, hm])
      exact .inr (.inr ⟨kvs, q, by rw [← n, isEmpty_len (List.length_map ..)]⟩)
    · cases e
  | _ => cases e
/-- tests -/
abbrev MT := Sl → Mem → R Bool
def PostT (K : PySem.W.Frag) (W : WX) (F : Hp) (io : List Addr) (H : Hp) (σ : St) (Q : Bool → Hp → Prop) : R Bool → Prop
  | .ok b M' => ∀ F' io' H', HA K F' io' H' M' → Ex F io H F' io' H' → Q b H'
  | .exc c ns ds M' => ∀ F' io' H' dd, HA K F' io' H' M' → Ex F io H F' io' H' → ExcAt K F' io' H H' ns ds dd → W (.ref (He.ga K c)) (some dd) σ H'
  | .stuck => False
def tT (K : PySem.W.Frag) (W : WX) (m : MT) : TT := fun σ H Q => ∃ F io env M, HA K F io H M ∧ ER K F io σ env ∧ PostT K W F io H σ Q (m env M)
theorem PostT.from_ {K : PySem.W.Frag} {F H F1 H1 : Hp} {io io1 : List Addr} {σ : St} {Q : Bool → Hp → Prop} {r : R Bool} (x : Ex F io H F1 io1 H1) (h : PostT K W F io H σ Q r) : PostT K W F1 io1 H1 σ Q r := by
  cases r with
  | ok rv M' => exact fun F' io' H' a b => h F' io' H' a (x.trans b)
  | exc c ns ds M' => exact fun F' io' H' dd a b c => h F' io' H' dd a (x.trans b) (c.from_ x)
  | stuck => exact h
def mTru (m : ME) : MT := fun env M => (mD m env M).bind fun d M1 => match truO d M1 with
  | some b => .ok b M1
  | none => .stuck
theorem tD_tru {K : PySem.W.Frag} {m : MD} {σ : St} {H : Hp} {Q : Bool → Hp → Prop} (h : tT K W (fun env M => (m env M).bind fun d M1 => match truO d M1 with
    | some b => .ok b M1
    | none => .stuck) σ H Q) : tD K W m σ H fun x H1 => ∃ k, TruV K x H1 k ∧ Q k H1 := by
  obtain ⟨F, io, env, M, ha, er, p⟩ := h
  refine ⟨F, io, env, M, ha, er, ?_⟩
  dsimp only at p
  cases q : m env M with
  | stuck => rw [q] at p; exact p
  | exc c ns ds M' => rw [q] at p; exact p
  | ok d M1 =>
    rw [q] at p
    intro F1 io1 H1 x a b c
    dsimp only [R.bind] at p
    cases e : truO d M1 with
    | none => rw [e] at p; exact p.elim
    | some k =>
      rw [e] at p
      exact ⟨k, tru_rel a c e, p F1 io1 H1 a b⟩
theorem tm_tru {m : ME} (h : PE X e (tE X.K W m)) (he : ∀ whole, isTrue e X.env whole = (do let v ← whole; standAt e.pos; holding [v] (truthy v))) : PT X e (tT X.K W (mTru m)) :=
  PT.imp' (pt_truth (pe_d h) he) fun σ H Q h => tD_tru h
def mCmp (op : CmpOp) (m1 m2 : ME) : ME := fun env M => (mD m1 env M).bind fun d1 M1 => (mD m2 env M1).bind fun d2 M2 => cmpS op d1 d2 M2
theorem pm_cmp {op : CmpOp} {a b : Expr} {m1 m2 : ME} {pos : Pos} (hu : X.A.units + 65 < cLine) (ha : PE X a (tE X.K W m1)) (hb : PE X b (tE X.K W m2)) (hm : behindInMarks op b = false) : PE X (.Compare a [op] [b] pos) (tE X.K W (mCmp op m1 m2)) :=
  PE.imp' (pe_cmpR (cmp_any hu op) (pe_d ha) (pe_d hb) hm) fun _ _ _ h => tD2 h
/-- a value that is a bool, as a test -/
def mBl (m : ME) : MT := fun env M => (m env M).bind fun rv M1 => match rv with
  | .val (.bl b) => .ok b M1
  | _ => .stuck
theorem tE_bl {K : PySem.W.Frag} {m : ME} {σ : St} {H : Hp} {Q : Bool → Hp → Prop} (h : tT K W (mBl m) σ H Q) : tE K W m σ H fun x H1 => ∃ k, x = .bl k ∧ Q k H1 := by
  obtain ⟨F, io, env, M, ha, er, p⟩ := h
  refine ⟨F, io, env, M, ha, er, ?_⟩
  unfold mBl at p
  cases q : m env M with
  | stuck => rw [q] at p; exact p
  | exc c ns ds M' => rw [q] at p; exact p
  | ok rv M1 =>
    rw [q] at p
    intro F1 io1 H1 x a b c
    dsimp only [R.bind] at p
    split at p
    · rename_i k
      exact ⟨k, c, p F1 io1 H1 a b⟩
    · exact p.elim
theorem tm_cmp {op : CmpOp} {a b : Expr} {m1 m2 : ME} {pos : Pos} (hu : X.A.units + 65 < cLine) (ha : PE X a (tE X.K W m1)) (hb : PE X b (tE X.K W m2)) (hm : behindInMarks op b = false) : PT X (.Compare a [op] [b] pos) (tT X.K W (mBl (mCmp op m1 m2))) :=
  PT.imp' (pt_cmpR (cmp_any hu op) (pe_d ha) (pe_d hb) hm) fun σ H Q h => tD2 (tE_bl h)
/-! ### not, and, or -/
def mNotT (m : MT) : MT := fun env M => (m env M).map not
theorem tm_not {m : MT} {pos : Pos} (h : PT X e (tT X.K W m)) : PT X (.UnaryOp .Not e pos) (tT X.K W (mNotT m)) := PT.imp' (pt_not h) fun σ H Q h => by
  obtain ⟨F, io, env, M, ha, er, p⟩ := h
  refine ⟨F, io, env, M, ha, er, ?_⟩
  unfold mNotT at p
  cases q : m env M with
  | stuck => rw [q] at p; exact p
  | exc c ns ds M' => rw [q] at p; exact p
  | ok b M1 => rw [q] at p; exact p
def mAndT (m1 m2 : MT) : MT := fun env M => (m1 env M).bind fun b M1 => if b then m2 env M1 else .ok false M1
def mOrT (m1 m2 : MT) : MT := fun env M => (m1 env M).bind fun b M1 => if b then .ok true M1 else m2 env M1
theorem PW.imp' {e : Expr} {t t' : TT} (h : PW X e t) (i : ∀ σ H Q, t' σ H Q → t σ H Q) : PW X e t' := ⟨fun wh pins s σ H Q I hw => h.run wh pins s σ H Q I (i σ H Q hw)⟩
/-- a test, then more -/
theorem tT_bind {K : PySem.W.Frag} {m : MT} {k : Bool → Sl → Mem → R Bool} {σ : St} {H : Hp} {Q r : Bool → Hp → Prop} (h : tT K W (fun env M => (m env M).bind fun b M1 => k b env M1) σ H Q)
    (hr : ∀ b M1 F1 io1 H1 env, HA K F1 io1 H1 M1 → ER K F1 io1 σ env → PostT K W F1 io1 H1 σ Q (k b env M1) → r b H1) : tT K W m σ H r := by
  obtain ⟨F, io, env, M, ha, er, p⟩ := h
  refine ⟨F, io, env, M, ha, er, ?_⟩
  dsimp only at p
  cases q : m env M with
  | stuck => rw [q] at p; exact p
  | exc c ns ds M' => rw [q] at p; exact p
  | ok d M1 =>
    rw [q] at p
    intro F1 io1 H1 a b
    exact hr d M1 F1 io1 H1 env a (er.mono b.sub b.ids) (PostT.from_ b p)
theorem wm_and {b : Expr} {rest : List Expr} {m1 m2 : MT} {pos : Pos} (h1 : PT X e (tT X.K W m1)) (h2 : PW X (.BoolOp .And (b :: rest) pos) (tT X.K W m2)) : PW X (.BoolOp .And (e :: b :: rest) pos) (tT X.K W (mAndT m1 m2)) :=
  PW.imp' (pw_and h1 h2) fun σ H Q h => tT_bind (k := fun b env M1 => if b then m2 env M1 else .ok false M1) h fun b M1 F1 io1 H1 env a er p => by
    cases b with
    | true => exact ⟨F1, io1, env, M1, a, er, p⟩
    | false => exact p F1 io1 H1 a .refl
theorem wm_or {b : Expr} {rest : List Expr} {m1 m2 : MT} {pos : Pos} (h1 : PT X e (tT X.K W m1)) (h2 : PW X (.BoolOp .Or (b :: rest) pos) (tT X.K W m2)) : PW X (.BoolOp .Or (e :: b :: rest) pos) (tT X.K W (mOrT m1 m2)) :=
  PW.imp' (pw_or h1 h2) fun σ H Q h => tT_bind (k := fun b env M1 => if b then .ok true M1 else m2 env M1) h fun b M1 F1 io1 H1 env a er p => by
    cases b with
    | false => exact ⟨F1, io1, env, M1, a, er, p⟩
    | true => exact p F1 io1 H1 a .refl
/-- .. as values, by truth -/
def mAnd (m1 m2 : ME) : ME := fun env M => (mD m1 env M).bind fun d M1 => match truO d M1 with
  | some true => m2 env M1
  | some false => .ok (.val d) M1
  | none => .stuck
def mOr (m1 m2 : ME) : ME := fun env M => (mD m1 env M).bind fun d M1 => match truO d M1 with
  | some false => m2 env M1
  | some true => .ok (.val d) M1
  | none => .stuck
theorem pm_and {b : Expr} {rest : List Expr} {m1 m2 : ME} {pos : Pos} (h1 : PE X e (tE X.K W m1)) (h2 : PE X (.BoolOp .And (b :: rest) pos) (tE X.K W m2)) : PE X (.BoolOp .And (e :: b :: rest) pos) (tE X.K W (mAnd m1 m2)) :=
  PE.imp' (pe_andT (pe_d h1) h2) fun σ H Q h => tD_then (k := fun d env M1 => match truO d M1 with
    | some true => m2 env M1
    | some false => .ok (.val d) M1
    | none => .stuck) h fun d M1 F1 io1 H1 x env a er r p => by
    split at p
    · rename_i e; exact ⟨true, tru_rel a r e, by rw [if_pos rfl]; exact ⟨F1, io1, env, M1, a, er, p⟩⟩
    · rename_i e; exact ⟨false, tru_rel a r e, by rw [if_neg Bool.false_ne_true]; exact post_val p a r⟩
    · exact p.elim
theorem pm_or {b : Expr} {rest : List Expr} {m1 m2 : ME} {pos : Pos} (h1 : PE X e (tE X.K W m1)) (h2 : PE X (.BoolOp .Or (b :: rest) pos) (tE X.K W m2)) : PE X (.BoolOp .Or (e :: b :: rest) pos) (tE X.K W (mOr m1 m2)) :=
  PE.imp' (pe_orT (pe_d h1) h2) fun σ H Q h => tD_then (k := fun d env M1 => match truO d M1 with
    | some false => m2 env M1
    | some true => .ok (.val d) M1
    | none => .stuck) h fun d M1 F1 io1 H1 x env a er r p => by
    split at p
    · rename_i e; exact ⟨false, tru_rel a r e, by rw [if_neg Bool.false_ne_true]; exact ⟨F1, io1, env, M1, a, er, p⟩⟩
    · rename_i e; exact ⟨true, tru_rel a r e, by rw [if_pos rfl]; exact post_val p a r⟩
    · exact p.elim
theorem pm_one {op : BoolOp} {m : ME} {pos : Pos} (h : PE X e (tE X.K W m)) : PE X (.BoolOp op [e] pos) (tE X.K W m) := pe_one h
def mNot (m : ME) : ME := fun env M => (mD m env M).bind fun d M1 => match truO d M1 with
  | some b => vB (!b) M1
  | none => .stuck
theorem pm_not {m : ME} {pos : Pos} (h : PE X e (tE X.K W m)) : PE X (.UnaryOp .Not e pos) (tE X.K W (mNot m)) :=
  PE.imp' (pe_notT (pe_d h)) fun σ H Q h => tD_bind h fun d M1 F1 io1 H1 x env a er r p => by
    split at p
    · rename_i b e; exact ⟨b, tru_rel a r e, post_val p a rfl⟩
    · exact p.elim
def mNeg (m : ME) : ME := fun env M => (mD m env M).bind fun d M1 => match d with
  | .int i => vI (-i) M1
  | _ => .stuck
theorem pm_neg {m : ME} {pos : Pos} (h : PE X e (tE X.K W m)) : PE X (.UnaryOp .USub e pos) (tE X.K W (mNeg m)) :=
  PE.imp' (pe_un un_neg (pe_d h)) fun σ H Q h => tD_bind h fun d M1 F1 io1 H1 x env a er r p => by
    split at p
    · rename_i i; exact ⟨i, r, post_val p a rfl⟩
    · exact p.elim
/-! ### a if t else b -/
def mIf (t : MT) (m1 m2 : ME) : ME := fun env M => (t env M).bind fun b M1 => if b then m1 env M1 else m2 env M1
theorem tT_then {K : PySem.W.Frag} {m : MT} {k : Bool → Sl → Mem → R RV} {σ : St} {H : Hp} {Q : VK} {r : Bool → Hp → Prop} (h : tE K W (fun env M => (m env M).bind fun b M1 => k b env M1) σ H Q)
    (hr : ∀ b M1 F1 io1 H1 env, HA K F1 io1 H1 M1 → ER K F1 io1 σ env → PostE K W F1 io1 H1 σ Q (k b env M1) → r b H1) : tT K W m σ H r := by
  obtain ⟨F, io, env, M, ha, er, p⟩ := h
  refine ⟨F, io, env, M, ha, er, ?_⟩
  dsimp only at p
  cases q : m env M with
  | stuck => rw [q] at p; exact p
  | exc c ns ds M' => rw [q] at p; exact p
  | ok d M1 =>
    rw [q] at p
    intro F1 io1 H1 a b
    exact hr d M1 F1 io1 H1 env a (er.mono b.sub b.ids) (PostE.from_ b p)
theorem pm_if {c a b : Expr} {t : MT} {m1 m2 : ME} {pos : Pos} (hc : PT X c (tT X.K W t)) (h1 : PE X a (tE X.K W m1)) (h2 : PE X b (tE X.K W m2)) : PE X (.IfExp c a b pos) (tE X.K W (mIf t m1 m2)) :=
  PE.imp' (pe_ifExp hc h1 h2) fun σ H Q h => tT_then (k := fun b env M1 => if b then m1 env M1 else m2 env M1) h fun b M1 F1 io1 H1 env a er p => by
    cases b with
    | true => exact ⟨F1, io1, env, M1, a, er, p⟩
    | false => exact ⟨F1, io1, env, M1, a, er, p⟩
/-! ### a op1 b op2 c -/
def mChain (op op' : CmpOp) (m1 m2 m3 : ME) : ME := fun env M => (mD m1 env M).bind fun d1 M1 => (mD m2 env M1).bind fun d2 M2 => (cmpS op d1 d2 M2).bind fun rv M3 => match rv with
  | .val (.bl true) => (mD m3 env M3).bind fun d3 M4 => cmpS op' d2 d3 M4
  | .val (.bl false) => vB false M3
  | _ => .stuck
theorem cmpS_mem {op : CmpOp} {d1 d2 : D} {M M' : Mem} {rv : RV} (h : cmpS op d1 d2 M = .ok rv M') : M' = M ∧ ∃ b, rv = .val (.bl b) := by
  have rb : ∀ o, rB o M = .ok rv M' → M' = M ∧ ∃ b, rv = .val (.bl b) := fun o h => by
    cases o with
    | none => cases h
    | some b => cases h; exact ⟨rfl, b, rfl⟩
  cases op <;> exact rb _ h
theorem cmpS_exc {op : CmpOp} {d1 d2 : D} {M M' : Mem} {c : Str} {ns : List Str} {ds : List D} (h : cmpS op d1 d2 M = .exc c ns ds M') : False := by
  have rb : ∀ o, rB o M = .exc c ns ds M' → False := fun o h => by
    cases o with
    | none => cases h
    | some b => cases h
  cases op <;> exact rb _ h
theorem pm_chain {op op' : CmpOp} {a b c : Expr} {m1 m2 m3 : ME} {pos : Pos} (hu : X.A.units + 65 < cLine) (ha : PE X a (tE X.K W m1)) (hb : PE X b (tE X.K W m2)) (hc : PE X c (tE X.K W m3)) (hm : lastMarks [op, op'] [b, c] = false) :
    PE X (.Compare a [op, op'] [b, c] pos) (tE X.K W (mChain op op' m1 m2 m3)) :=
  PE.imp' (pe_chain (cmp_any hu op) (cmp_any hu op') (pe_d ha) (pe_d hb) (pe_d hc) hm) fun σ H Q h => by
    refine tD_then (k := fun d1 env M1 => (mD m2 env M1).bind fun d2 M2 => (cmpS op d1 d2 M2).bind fun rv M3 => match rv with
      | .val (.bl true) => (mD m3 env M3).bind fun d3 M4 => cmpS op' d2 d3 M4
      | .val (.bl false) => vB false M3
      | _ => .stuck) h fun d1 M1 F1 io1 H1 x env a1 er1 r1 p1 => ?_
    refine ⟨F1, io1, env, M1, a1, er1, ?_⟩
    cases q2 : mD m2 env M1 with
    | stuck => rw [q2] at p1; exact p1
    | exc c ns ds M' => rw [q2] at p1; exact p1
    | ok d2 M2 =>
      rw [q2] at p1
      intro F2 io2 H2 y a2 b2 r2
      have p2 := PostE.from_ b2 p1
      dsimp only [R.bind] at p2
      refine ⟨F2, io2, M2, d1, d2, W, σ, a2, Rel.mono b2.sub b2.ids _ _ r1, r2, ?_⟩
      cases q3 : cmpS op d1 d2 M2 with
      | stuck => rw [q3] at p2; exact p2
      | exc c ns ds M' => exact (cmpS_exc q3).elim
      | ok rv M3 =>
        rw [q3] at p2
        obtain ⟨em, k, rfl⟩ := cmpS_mem q3
        subst em
        intro F3 io3 H3 z a3 b3 r3
        have p3 := PostE.from_ b3 p2
        refine ⟨k, r3, ?_⟩
        cases k with
        | false => rw [if_neg Bool.false_ne_true]; exact post_val p3 a3 rfl
        | true =>
          rw [if_pos rfl]
          refine ⟨F3, io3, env, M3, a3, (er1.mono b2.sub b2.ids).mono b3.sub b3.ids, ?_⟩
          dsimp only [R.bind] at p3
          cases q4 : mD m3 env M3 with
          | stuck => rw [q4] at p3; exact p3
          | exc c ns ds M' => rw [q4] at p3; exact p3
          | ok d3 M4 =>
            rw [q4] at p3
            intro F4 io4 H4 w a4 b4 r4
            exact ⟨F4, io4, M4, d2, d3, W, σ, a4, Rel.mono b4.sub b4.ids _ _ (Rel.mono b3.sub b3.ids _ _ r2), r4, PostE.from_ b4 p3⟩
theorem tm_val {m : ME} (h : PE X e (tE X.K W m)) (he : ∀ whole, isTrue e X.env whole = (do let v ← whole; standAt e.pos; holding [v] (truthy v))) : PT X e (tT X.K W (mBl m)) :=
  PT.imp' (pt_val h he) fun σ H Q h => tE_bl h
end
end Pc

set_option Elab.async false
set_option linter.all false
set_option maxRecDepth 100000
set_option maxHeartbeats 1000000
set_option autoImplicit false
/-! Pc6: subscripts, slices, fields -/
namespace Pc
open PySem PySem.Spec PyProof.Rows L2

def cutL {α : Type} (xs : List α) (lo hi : Option Int) : List α := (xs.drop (HT.sIx xs.length 0 lo)).take (HT.sIx xs.length xs.length hi - HT.sIx xs.length 0 lo)
def oV (o : Option D) (M : Mem) : R RV := match o with
  | some d => .ok (.val d) M
  | none => .stuck
def idxS (d1 d2 : D) (M : Mem) : R RV := match seqA M d1, d2 with
  | some xs, .int i => oV (atI xs i) M
  | _, _ => match d1, d2 with
    | .str z, .int i => if z.length ≤ sizeLine then oV ((atI z.cps.toList i).map fun c => .str ⟨#[c]⟩) M else .stuck
    | _, _ => match dGet M d1 d2 with
      | some o => oV o M
      | none => .stuck
def slS (d : D) (lo hi : Option Int) (M : Mem) : R RV := match d with
  | .str z => if z.length ≤ sizeLine then .ok (.val (.str (cutS z lo hi))) M else .stuck
  | .tup xs => .ok (.val (.tup (cutL xs lo hi))) M
  | .scr ns => .ok (.own (.lst ((cutL ns lo hi).map D.int))) M
  | d => match seqL M d with
    | some xs => .ok (.own (.lst (cutL xs lo hi))) M
    | none => .stuck
/-- an instance -/
def insOf (M : Mem) : D → Option (Str × List Str × List D)
  | .obj c ns ds => some (c, ns, ds)
  | .ref i => match M[i]? with
    | some (.ins c ns ds) => some (c, ns, ds)
    | _ => none
  | _ => none
def attrS (ok : Str → Str → Bool) (f : Str) (d : D) (M : Mem) : R RV := match insOf M d with
  | some (c, ns, ds) => if ok c f = true then oV (lookD ns ds f) M else .stuck
  | none => .stuck

section
variable {X : Cx} {K : PySem.W.Frag} {F H : Hp} {io : List Addr} {M : Mem}
theorem atI_rel {xs : List D} {vs : List V} {i : Int} {d : D} (l : RelL K F io xs vs) (e : atI xs i = some d) : ∃ v, atI vs i = some v ∧ Rel K F io d v := by
  unfold atI at e ⊢
  rw [← l.length]
  cases h : ixN xs.length i with
  | none => rw [h] at e; cases e
  | some j =>
    rw [h] at e
    exact l.get e
theorem cut_rel {xs : List D} {vs : List V} {lo hi : Option Int} (l : RelL K F io xs vs) : RelL K F io (cutL xs lo hi) (cutV vs lo hi) := by
  unfold cutL cutV
  rw [l.length]
  exact (l.drop _).take _
theorem ints_relL : ∀ (ns : List Int), RelL K F io (ns.map D.int) (ns.map V.int)
  | [] => rfl
  | n :: ns => ⟨_, _, rfl, rfl, ints_relL ns⟩
theorem cutL_map {α β : Type} (f : α → β) (xs : List α) (lo hi : Option Int) : cutL (xs.map f) lo hi = (cutL xs lo hi).map f := by
  unfold cutL
  rw [List.length_map, List.map_take, List.map_drop]
def rIxD : R2 := fun x y H Q => ∃ a v, x = .ref a ∧ DGet H a y (some v) ∧ Q v H
theorem ix_dict (hu : X.A.units + 1 < cLine) : IxR X rIxD := by
  intro value slice pins s σ H x y v u Q I rx ry h hs
  obtain ⟨a, w, rfl, g, q⟩ := h
  obtain rfl : v = Value.ref a := rx
  have hT := dict_typeIs I g
  unfold subscriptTail
  refine wpAny_bind ?_
  rw [getitemInPython_of_ne hT.not_modules]
  refine wpAny_bind (wpAny_specialOf hT PySem.F.slot_dict_getitem.lookup ?_)
  have fin : wpAny (model X.prog X.w) X.A (subscripted slice false (.ref a) u) (fun r s₃ => wpAny (model X.prog X.w) X.A (letTemporaryGo value (.ref a) r >>= fun _ => pure r) (EP X pins σ Q) X.xe s₃) X.xe s := by
    rw [hs]
    exact wpAny_operating (wpAny_mono (d_getItem hu I g ry fun w' s3 I3 rw' => (⟨w, H, I3, rw', q⟩ : EP X pins σ Q w' s3)) (fun r s₃ h₃ => wpAny_bind (wpAny_letTemporaryGo (wpAny_pure h₃))) fun _ _ x => x)
  first
    | exact wpAny_pure (wpAny_bind fin)
    | exact wpAny_bind (wpAny_pure (wpAny_bind fin))
    | exact wpAny_bind fin
theorem oV_some {W : WX} {σ : St} {Q : VK} {o : Option D} (p : PostE K W F io H σ Q (oV o M)) : ∃ d, o = some d ∧ PostE K W F io H σ Q (.ok (.val d) M) := by
  cases o with
  | none => exact p.elim
  | some d => exact ⟨d, rfl, p⟩
theorem ix_any (hu : X.A.units + 1 < cLine) : IxR X (rBin X.K idxS) := by
  intro value slice pins s σ H x y v u Q I rx ry h hs
  obtain ⟨F, io, M, d1, d2, W, σ', ha, r1, r2, p⟩ := h
  have dic : PostE X.K W F io H σ' Q (match dGet M d1 d2 with
      | some o => oV o M
      | none => .stuck) → wpAny (model X.prog X.w) X.A (subscriptTail value slice v u) (EP X pins σ Q) X.xe s := fun p => by
    split at p
    · rename_i o e
      obtain ⟨d, rfl, p⟩ := oV_some p
      obtain ⟨a, ov, rfl, g, g1, _⟩ := dGet_rel ha r1 r2 e
      obtain ⟨w, rfl, rw'⟩ := g1 d rfl
      exact ix_dict hu value slice pins s σ H _ y v u Q I rx ry ⟨a, w, rfl, g, post_val p ha rw'⟩ hs
    · exact p.elim
  unfold idxS at p
  split at p
  · rename_i xs i e
    obtain ⟨d, e2, p⟩ := oV_some p
    obtain ⟨a, vs, rfl, q, l⟩ := ha.seqA r1 e
    obtain ⟨w, hw, rw'⟩ := atI_rel l e2
    obtain rfl := (show y = V.int i from r2)
    rcases q with q | q
    · exact ix_list value slice pins s σ H _ _ v u Q I rx ry ⟨a, vs, i, w, rfl, rfl, q, hw, post_val p ha rw'⟩ hs
    · exact ix_tup value slice pins s σ H _ _ v u Q I rx ry ⟨a, vs, i, w, rfl, rfl, q, hw, post_val p ha rw'⟩ hs
  · split at p
    · rename_i z i _
      obtain rfl := (show x = V.str z from r1)
      obtain rfl := (show y = V.int i from r2)
      split at p
      · rename_i hz
        obtain ⟨d, e2, p⟩ := oV_some p
        cases hc : atI z.cps.toList i with
        | none => rw [hc] at e2; cases e2
        | some c =>
          rw [hc] at e2
          cases e2
          exact ix_str value slice pins s σ H _ _ v u Q I rx ry ⟨z, i, c, rfl, rfl, hz, hc, post_val p ha rfl⟩ hs
      · exact p.elim
    · exact dic p
end
section
variable {X : Cx} {W : WX}
def mIdx (m1 m2 : ME) : ME := fun env M => (mD m1 env M).bind fun d1 M1 => (mD m2 env M1).bind fun d2 M2 => idxS d1 d2 M2
theorem pm_idx {a b : Expr} {m1 m2 : ME} {pos : Pos} (hu : X.A.units + 1 < cLine) (ha : PE X a (tE X.K W m1)) (hb : PE X b (tE X.K W m2)) (hs : PlainIx b) : PE X (.Subscript a b pos) (tE X.K W (mIdx m1 m2)) :=
  PE.imp' (pe_ix (ix_any hu) (pe_d ha) (pe_d hb) hs) fun _ _ _ h => tD2 h
/-! ### slices -/
abbrev MPt := Sl → Mem → R (Option Int)
def mNoPart : MPt := fun _ M => .ok none M
def mPart (m : ME) : MPt := fun env M => (mD m env M).bind fun d M1 => match d with
  | .int i => .ok (some i) M1
  | _ => .stuck
def PostP (K : PySem.W.Frag) (W : WX) (F : Hp) (io : List Addr) (H : Hp) (σ : St) (Q : Option Int → Hp → Prop) : R (Option Int) → Prop
  | .ok b M' => ∀ F' io' H', HA K F' io' H' M' → Ex F io H F' io' H' → Q b H'
  | .exc c ns ds M' => ∀ F' io' H' dd, HA K F' io' H' M' → Ex F io H F' io' H' → ExcAt K F' io' H H' ns ds dd → W (.ref (He.ga K c)) (some dd) σ H'
  | .stuck => False
def tP (K : PySem.W.Frag) (W : WX) (m : MPt) : TO := fun σ H Q => ∃ F io env M, HA K F io H M ∧ ER K F io σ env ∧ PostP K W F io H σ Q (m env M)
theorem PO.imp' {e : Option Expr} {t t' : TO} (h : PO X e t) (i : ∀ σ H Q, t' σ H Q → t σ H Q) : PO X e t' := ⟨fun pins s σ H Q I hw => h.run pins s σ H Q I (i σ H Q hw)⟩
theorem om_none : PO X none (tP X.K W mNoPart) := PO.imp' po_none fun σ H Q h => by
  obtain ⟨F, io, env, M, ha, er, p⟩ := h
  exact p F io H ha .refl
theorem om_some {e : Expr} {m : ME} (h : PE X e (tE X.K W m)) : PO X (some e) (tP X.K W (mPart m)) := PO.imp' (po_some (pe_d h)) fun σ H Q h => by
  obtain ⟨F, io, env, M, ha, er, p⟩ := h
  refine ⟨F, io, env, M, ha, er, ?_⟩
  unfold mPart at p
  cases q : mD m env M with
  | stuck => rw [q] at p; exact p
  | exc c ns ds M' => rw [q] at p; exact p
  | ok d M1 =>
    rw [q] at p
    intro F1 io1 H1 x a b c
    dsimp only [R.bind] at p
    split at p
    · rename_i i; exact ⟨i, c, p F1 io1 H1 a b⟩
    · exact p.elim
def mSlice (m : ME) (lo hi : MPt) : ME := fun env M => (mD m env M).bind fun d M1 => (lo env M1).bind fun l M2 => (hi env M2).bind fun u M3 => slS d l u M3
def rSlAny (K : PySem.W.Frag) : V → Option Int → Option Int → Hp → VK → Prop := fun x lo hi H Q => ∃ F io M d W σ, HA K F io H M ∧ Rel K F io d x ∧ PostE K W F io H σ Q (slS d lo hi M)
theorem sl_any : SlR X (rSlAny X.K) := by
  intro pins s σ H x v vl vu lo hi sl Q I rx hs pl pu h
  obtain ⟨F, io, M, d, W, σ', ha, r, p⟩ := h
  unfold slS at p
  split at p
  · rename_i z
    split at p
    · rename_i hz
      obtain rfl := (show x = V.str z from r)
      exact sl_str pins s σ H _ v vl vu lo hi sl Q I rx hs pl pu ⟨z, rfl, hz, post_val p ha rfl⟩
    · exact p.elim
  · rename_i xs
    have r0 := r
    obtain ⟨a, vs, rfl, q, l⟩ := ha.tup r
    refine sl_tupA pins s σ H _ v vl vu lo hi sl Q I rx hs pl pu ⟨a, vs, rfl, q, fun z => ?_, fun _ b hb => ?_⟩
    · have e : cutL xs lo hi = xs := by
        unfold cutL
        rw [l.length, z.1, z.2, List.drop_zero, Nat.sub_zero, ← l.length, List.take_length]
      rw [e] at p
      exact post_val p ha r0
    · exact post_tup p ha (cut_rel l) hb
  · rename_i ns
    obtain ⟨a, rfl, q⟩ := (show ∃ a, _ = V.ref a ∧ SqL X.K F a (ns.map V.int) from r)
    refine sl_list pins s σ H _ v vl vu lo hi sl Q I rx hs pl pu ⟨a, _, rfl, Same.seq ha.sub q, fun b hb => ?_⟩
    rw [← cutL_map] at p
    exact post_lst p ha (cut_rel (ints_relL ns)) hb
  · split at p
    · rename_i xs e
      obtain ⟨a, vs, rfl, q, l⟩ := ha.lst r e
      exact sl_list pins s σ H _ v vl vu lo hi sl Q I rx hs pl pu ⟨a, vs, rfl, .of q, fun b hb => post_lst p ha (cut_rel l) hb⟩
    · exact p.elim
theorem pm_slice {e : Expr} {lo hi : Option Expr} {m : ME} {ml mh : MPt} {p2 pos : Pos} (he : PE X e (tE X.K W m)) (hl : PO X lo (tP X.K W ml)) (hh : PO X hi (tP X.K W mh)) : PE X (.Subscript e (.Slice lo hi none p2) pos) (tE X.K W (mSlice m ml mh)) :=
  PE.imp' (pe_slice sl_any (pe_d he) hl hh) fun σ H Q h => by
    refine tD_then (k := fun d env M1 => (ml env M1).bind fun l M2 => (mh env M2).bind fun u M3 => slS d l u M3) h fun d M1 F1 io1 H1 x env a1 er1 r1 p1 => ?_
    refine ⟨F1, io1, env, M1, a1, er1, ?_⟩
    cases q2 : ml env M1 with
    | stuck => rw [q2] at p1; exact p1
    | exc c ns ds M' => rw [q2] at p1; exact p1
    | ok l M2 =>
      rw [q2] at p1
      intro F2 io2 H2 a2 b2
      have p2 := PostE.from_ b2 p1
      refine ⟨F2, io2, env, M2, a2, er1.mono b2.sub b2.ids, ?_⟩
      dsimp only [R.bind] at p2
      cases q3 : mh env M2 with
      | stuck => rw [q3] at p2; exact p2
      | exc c ns ds M' => rw [q3] at p2; exact p2
      | ok u M3 =>
        rw [q3] at p2
        intro F3 io3 H3 a3 b3
        exact ⟨F3, io3, M3, d, W, σ, a3, Rel.mono b3.sub b3.ids _ _ (Rel.mono b2.sub b2.ids _ _ r1), PostE.from_ b3 p2⟩
/-! ### fields -/
theorem lookD_lookup {K : PySem.W.Frag} {F : Hp} {io : List Addr} {f : Str} : ∀ {fs : List (Str × V)} {ds : List D}, RelL K F io ds (fs.map (·.2)) →
    (∀ d, lookD (fs.map (·.1)) ds f = some d → ∃ v, fs.lookup f = some v ∧ Rel K F io d v) ∧ (lookD (fs.map (·.1)) ds f = none → fs.lookup f = none)
  | [], ds, h => ⟨fun d e => by simp [lookD] at e, fun _ => rfl⟩
  | (j, x) :: r, ds, h => by
    cases ds with
    | nil => have := (show _ = [] from h); simp at this
    | cons d ds =>
      obtain ⟨v, t, e, h1, h2⟩ := (show ∃ v r, _ = v :: r ∧ Rel K F io d v ∧ RelL K F io ds r from h)
      rw [List.map_cons] at e
      injection e with e1 e2
      subst e1 e2
      obtain ⟨i1, i2⟩ := lookD_lookup (f := f) h2
      rw [List.map_cons, lookD]
      by_cases hk : j = f
      · subst hk
        rw [if_pos rfl, List.lookup_cons, beq_self_eq_true]
        exact ⟨fun d' e => by cases e; exact ⟨_, rfl, h1⟩, fun e => by cases e⟩
      · rw [if_neg hk, List.lookup_cons, show (f == j) = false from by simpa using fun z => hk z.symm]
        exact ⟨i1, i2⟩
theorem HA.ins {K : PySem.W.Frag} {F H : Hp} {io : List Addr} {M : Mem} (h : HA K F io H M) {d : D} {v : V} {c : Str} {ns : List Str} {ds : List D} (r : Rel K F io d v) (e : insOf M d = some (c, ns, ds)) :
    ∃ a dx fs, v = .ref a ∧ H a = some (.ins (He.ga K c) dx fs) ∧ fs.map (·.1) = ns ∧ RelL K F io ds (fs.map (·.2)) := by
  cases d with
  | obj c' ns' ds' =>
    cases e
    obtain ⟨a, dx, fvs, q, q1, q2, q3⟩ := (show ∃ a dx fvs, _ = V.ref a ∧ F a = some (.ins (He.ga K _) dx fvs) ∧ fvs.map (·.1) = _ ∧ RelL K F io _ (fvs.map (·.2)) from r)
    exact ⟨a, dx, fvs, q, h.sub _ _ q1, q2, q3⟩
  | ref i =>
    obtain ⟨a, q, q1⟩ := (show ∃ a, _ = V.ref a ∧ io[i]? = some a from r)
    rw [insOf] at e
    cases hm : M[i]? with
    | none => rw [hm] at e; cases e
    | some o =>
      rw [hm] at e
      cases o with
      | ins c' ns' ds' =>
        cases e
        obtain ⟨a', e1, e2, dx, fvs, e3, e4, e5⟩ := h.at_ i _ hm
        rw [q1] at e1
        cases e1
        exact ⟨a, dx, fvs, q, e3, e4, e5⟩
      | _ => cases e
  | _ => cases e
def mAttr (ok : Str → Str → Bool) (f : Str) (m : ME) : ME := fun env M => (mD m env M).bind fun d M1 => attrS ok f d M1
def notSuper : Expr → Bool
  | .Call (.Name id _) [] [] _ => decide (id ≠ "super")
  | _ => true
theorem base_of {e : Expr} (h : notSuper e = true) (f : Str) (env : PySem.Env) (w : Sem Value) : attributeBase e f env w = w := by
  unfold attributeBase
  split
  · rename_i id p pos
    have hn : (id != ("super" : Str)) = true := by
      have := of_decide_eq_true (show decide (id ≠ ("super" : Str)) = true from h)
      simpa using this
    rw [hn]
    rfl
  · rfl
theorem pm_attr {ok : Str → Str → Bool} {f : Str} {e : Expr} {m : ME} {pos : Pos} (hok : ∀ c, ok c f = true → Cls X.K (He.ga X.K c) ∧ NoAttr X.K (He.ga X.K c) f) (he : PE X e (tE X.K W m)) (hn : notSuper e = true) :
    PE X (.Attribute e f pos) (tE X.K W (mAttr ok f m)) :=
  PE.imp' (pe_fld (pe_d he) (base_of hn f X.env _)) fun σ H Q h => tD_bind h fun d M1 F1 io1 H1 x env a er r p => by
    unfold attrS at p
    split at p
    · rename_i c ns ds hi
      split at p
      · rename_i ho
        obtain ⟨d', e', p'⟩ := oV_some p
        clear p
        obtain ⟨l, dx, fs, rfl, q, rfl, rl⟩ := a.ins r hi
        obtain ⟨v, hv, rv⟩ := (lookD_lookup (f := f) rl).1 d' e'
        exact ⟨l, _, dx, fs, v, rfl, q, (hok c ho).1, (hok c ho).2, hv, post_val p' a rv⟩
      · exact p.elim
    · exact p.elim
end
end Pc

set_option Elab.async false
set_option linter.all false
set_option maxRecDepth 100000
set_option maxHeartbeats 1000000
set_option autoImplicit false
/-! Pc7: built-in functions and methods -/
namespace Pc
open PySem PySem.Spec PyProof.Rows L2

def rCall (K : PySem.W.Frag) (f : List D → Mem → R RV) : List V → Hp → VK → Prop := fun xs H Q => ∃ F io M ds W σ, HA K F io H M ∧ RelL K F io ds xs ∧ PostE K W F io H σ Q (f ds M)
def rMeth (K : PySem.W.Frag) (f : D → List D → Mem → R RV) : V → List V → Hp → VK → Prop := fun x xs H Q => ∃ F io M d ds W σ, HA K F io H M ∧ Rel K F io d x ∧ RelL K F io ds xs ∧ PostE K W F io H σ Q (f d ds M)

/-! ### lists of ints, of texts, of bools -/
def intsOf : List D → Option (List Int)
  | [] => some []
  | .int i :: r => (intsOf r).map (i :: ·)
  | _ :: _ => none
def strsOf : List D → Option (List Str)
  | [] => some []
  | .str i :: r => (strsOf r).map (i :: ·)
  | _ :: _ => none
def blsOf : List D → Option (List Bool)
  | [] => some []
  | .bl i :: r => (blsOf r).map (i :: ·)
  | _ :: _ => none
def maxF : Int → List Int → Int
  | a, [] => a
  | a, b :: r => maxF (max a b) r
def minF : Int → List Int → Int
  | a, [] => a
  | a, b :: r => minF (min a b) r
theorem maxF_ge : ∀ (r : List Int) (a : Int), a ≤ maxF a r ∧ ∀ x ∈ r, x ≤ maxF a r
  | [], a => ⟨Int.le_refl _, fun x h => by cases h⟩
  | b :: r, a => by
    obtain ⟨h1, h2⟩ := maxF_ge r (max a b)
    refine ⟨by show a ≤ maxF (max a b) r; omega, fun x hx => ?_⟩
    rcases List.mem_cons.mp hx with rfl | hx
    · show x ≤ maxF (max a x) r; omega
    · exact h2 x hx
theorem maxF_mem : ∀ (r : List Int) (a : Int), maxF a r ∈ a :: r
  | [], a => by simp [maxF]
  | b :: r, a => by
    have h := maxF_mem r (max a b)
    show maxF (max a b) r ∈ _
    rcases List.mem_cons.mp h with h | h
    · rw [h]
      by_cases c : a ≤ b
      · rw [Int.max_eq_right c]; simp
      · rw [Int.max_eq_left (by omega)]; simp
    · exact List.mem_cons_of_mem _ (List.mem_cons_of_mem _ h)
theorem minF_le : ∀ (r : List Int) (a : Int), minF a r ≤ a ∧ ∀ x ∈ r, minF a r ≤ x
  | [], a => ⟨Int.le_refl _, fun x h => by cases h⟩
  | b :: r, a => by
    obtain ⟨h1, h2⟩ := minF_le r (min a b)
    refine ⟨by show minF (min a b) r ≤ a; omega, fun x hx => ?_⟩
    rcases List.mem_cons.mp hx with rfl | hx
    · show minF (min a x) r ≤ x; omega
    · exact h2 x hx
theorem minF_mem : ∀ (r : List Int) (a : Int), minF a r ∈ a :: r
  | [], a => by simp [minF]
  | b :: r, a => by
    have h := minF_mem r (min a b)
    show minF (min a b) r ∈ _
    rcases List.mem_cons.mp h with h | h
    · rw [h]
      by_cases c : a ≤ b
      · rw [Int.min_eq_left c]; simp
      · rw [Int.min_eq_right (by omega)]; simp
    · exact List.mem_cons_of_mem _ (List.mem_cons_of_mem _ h)
section
variable {K : PySem.W.Frag} {F H : Hp} {io : List Addr} {M : Mem}
theorem ints_rel : ∀ {ds : List D} {vs : List V} {ns : List Int}, RelL K F io ds vs → intsOf ds = some ns → vs = ns.map V.int
  | [], _, _, h, e => by cases e; exact h
  | .int i :: r, _, ns, h, e => by
    obtain ⟨v, t, rfl, h1, h2⟩ := (show ∃ v t, _ = v :: t ∧ Rel K F io (.int i) v ∧ RelL K F io r t from h)
    rw [intsOf] at e
    cases q : intsOf r with
    | none => rw [q] at e; cases e
    | some l => rw [q] at e; cases e; rw [ints_rel h2 q, show v = V.int i from h1]; rfl
  | .non :: _, _, _, _, e | .bl _ :: _, _, _, _, e | .str _ :: _, _, _, _, e | .tup _ :: _, _, _, _, e | .ctup _ :: _, _, _, _, e | .lst _ :: _, _, _, _, e | .ref _ :: _, _, _, _, e | .obj _ _ _ :: _, _, _, _, e | .dic _ _ :: _, _, _, _, e | .dit _ _ :: _, _, _, _, e | .scr _ :: _, _, _, _, e | .fn _ :: _, _, _, _, e | .exo _ _ _ :: _, _, _, _, e => by cases e
theorem strs_rel : ∀ {ds : List D} {vs : List V} {ns : List Str}, RelL K F io ds vs → strsOf ds = some ns → vs = ns.map V.str
  | [], _, _, h, e => by cases e; exact h
  | .str i :: r, _, ns, h, e => by
    obtain ⟨v, t, rfl, h1, h2⟩ := (show ∃ v t, _ = v :: t ∧ Rel K F io (.str i) v ∧ RelL K F io r t from h)
    rw [strsOf] at e
    cases q : strsOf r with
    | none => rw [q] at e; cases e
    | some l => rw [q] at e; cases e; rw [strs_rel h2 q, show v = V.str i from h1]; rfl
  | .non :: _, _, _, _, e | .bl _ :: _, _, _, _, e | .int _ :: _, _, _, _, e | .tup _ :: _, _, _, _, e | .ctup _ :: _, _, _, _, e | .lst _ :: _, _, _, _, e | .ref _ :: _, _, _, _, e | .obj _ _ _ :: _, _, _, _, e | .dic _ _ :: _, _, _, _, e | .dit _ _ :: _, _, _, _, e | .scr _ :: _, _, _, _, e | .fn _ :: _, _, _, _, e | .exo _ _ _ :: _, _, _, _, e => by cases e
theorem bls_rel : ∀ {ds : List D} {vs : List V} {ns : List Bool}, RelL K F io ds vs → blsOf ds = some ns → vs = ns.map V.bl
  | [], _, _, h, e => by cases e; exact h
  | .bl i :: r, _, ns, h, e => by
    obtain ⟨v, t, rfl, h1, h2⟩ := (show ∃ v t, _ = v :: t ∧ Rel K F io (.bl i) v ∧ RelL K F io r t from h)
    rw [blsOf] at e
    cases q : blsOf r with
    | none => rw [q] at e; cases e
    | some l => rw [q] at e; cases e; rw [bls_rel h2 q, show v = V.bl i from h1]; rfl
  | .non :: _, _, _, _, e | .str _ :: _, _, _, _, e | .int _ :: _, _, _, _, e | .tup _ :: _, _, _, _, e | .ctup _ :: _, _, _, _, e | .lst _ :: _, _, _, _, e | .ref _ :: _, _, _, _, e | .obj _ _ _ :: _, _, _, _, e | .dic _ _ :: _, _, _, _, e | .dit _ _ :: _, _, _, _, e | .scr _ :: _, _, _, _, e | .fn _ :: _, _, _, _, e | .exo _ _ _ :: _, _, _, _, e => by cases e
theorem relL1 {d : D} {vs : List V} (h : RelL K F io [d] vs) : ∃ v, vs = [v] ∧ Rel K F io d v := by
  obtain ⟨v, t, rfl, h1, h2⟩ := (show ∃ v t, _ = v :: t ∧ Rel K F io d v ∧ RelL K F io [] t from h)
  obtain rfl := (show t = [] from h2)
  exact ⟨v, rfl, h1⟩
theorem relL2 {d e : D} {vs : List V} (h : RelL K F io [d, e] vs) : ∃ v u, vs = [v, u] ∧ Rel K F io d v ∧ Rel K F io e u := by
  obtain ⟨v, t, rfl, h1, h2⟩ := (show ∃ v t, _ = v :: t ∧ Rel K F io d v ∧ RelL K F io [e] t from h)
  obtain ⟨u, rfl, h3⟩ := relL1 h2
  exact ⟨v, u, rfl, h1, h3⟩
/-- an object of the memory is changed -/
theorem HA.write {i : Nat} {a : Addr} {o : MO} {u : HO} (h : HA K F io H M) (e : io[i]? = some a) (r : MR K F io (upd H a u) a o) : HA K F io (upd H a u) (M.set i o) ∧ Ex F io H F io (upd H a u) := by
  have hi : i < M.length := by rw [← h.len]; exact (List.getElem?_eq_some_iff.mp e).1
  obtain ⟨a', e1, e2, e3⟩ := h.at_ i _ (List.getElem?_eq_getElem hi)
  rw [e] at e1
  cases e1
  have nF : ∀ b w, F b = some w → b ≠ a := fun b w q z => by rw [z, e2] at q; cases q
  refine ⟨⟨fun b w q => by rw [upd_ne (nF b w q)]; exact h.sub b w q, by rw [List.length_set]; exact h.len, h.nd, fun j w q => ?_⟩, ⟨Same.refl _, fun _ _ z => z, fun b w q n => ?_, fun _ _ z => .inl z, fun _ z => .inl z, fun b z => ?_⟩⟩
  · by_cases hj : j = i
    · subst hj
      rw [List.getElem?_set_self hi] at q
      cases q
      exact ⟨a, e, e2, r⟩
    · rw [List.getElem?_set_ne (Ne.symm hj)] at q
      obtain ⟨c, f1, f2, f3⟩ := h.at_ j w q
      refine ⟨c, f1, f2, f3.mono (Same.refl _) (fun _ _ z => z) ?_⟩
      refine upd_ne fun z => hj ?_
      subst z
      obtain ⟨h1, g1⟩ := List.getElem?_eq_some_iff.mp f1
      obtain ⟨h2, g2⟩ := List.getElem?_eq_some_iff.mp e
      exact (List.getElem_inj h.nd).mp (g1.trans g2.symm)
  · have hb : b ≠ a := fun z => by rw [z] at n; exact n (List.mem_of_getElem? e)
    rw [upd_ne hb]
    exact q
  · by_cases q : b = a
    · subst q; rw [upd_same]; exact fun z => nomatch z
    · rw [upd_ne q]; exact z
end

/-! ### functions -/
def lenS (ds : List D) (M : Mem) : R RV := match ds with
  | [.str z] => if z.length ≤ sizeLine then vI z.length M else .stuck
  | [.scr ns] => vI ns.length M
  | [d] => match seqA M d with
    | some xs => vI xs.length M
    | none => match dicK M d with
      | some (ks, _) => vI ks.length M
      | none => .stuck
  | _ => .stuck
def absS (ds : List D) (M : Mem) : R RV := match ds with
  | [.int i] => vI (if i < 0 then -i else i) M
  | _ => .stuck
def intS (ds : List D) (M : Mem) : R RV := match ds with
  | [.int i] => vI i M
  | [.bl b] => vI (if b then 1 else 0) M
  | [.str x] => if x.length ≤ 640 then (match PySem.intText? x with
    | some n => vI n M
    | none => .stuck) else .stuck
  | _ => .stuck
def strS (ds : List D) (M : Mem) : R RV := match ds with
  | [.int i] => if i.natAbs.log2 < 1920 then .ok (.val (.str (toString i))) M else .stuck
  | [.str x] => .ok (.val (.str x)) M
  | _ => .stuck
def lI (M : Mem) (d : D) : Option (List Int) := (seqL M d).bind intsOf
def maxS (ds : List D) (M : Mem) : R RV := match ds with
  | [d] => (match lI M d with
    | some (a :: r) => vI (maxF a r) M
    | _ => .stuck)
  | [.int i, .int j] => vI (if j > i then j else i) M
  | _ => .stuck
def minS (ds : List D) (M : Mem) : R RV := match ds with
  | [d] => (match lI M d with
    | some (a :: r) => vI (minF a r) M
    | _ => .stuck)
  | [.int i, .int j] => vI (if j < i then j else i) M
  | _ => .stuck
def sumS (ds : List D) (M : Mem) : R RV := match ds with
  | [d] => (match lI M d with
    | some ns => vI ns.sum M
    | _ => .stuck)
  | _ => .stuck
def allS (ds : List D) (M : Mem) : R RV := match ds with
  | [d] => (match (seqL M d).bind blsOf with
    | some bs => vB (bs.all id) M
    | _ => .stuck)
  | _ => .stuck
def anyS (ds : List D) (M : Mem) : R RV := match ds with
  | [d] => (match (seqL M d).bind blsOf with
    | some bs => vB (bs.any id) M
    | _ => .stuck)
  | _ => .stuck
def listS (ds : List D) (M : Mem) : R RV := match ds with
  | [d] => (match seqA M d with
    | some xs => .ok (.own (.lst xs)) M
    | none => .stuck)
  | _ => .stuck
def tupleS (ds : List D) (M : Mem) : R RV := match ds with
  | [.tup xs] => .ok (.val (.tup xs)) M
  | [d] => (match seqL M d with
    | some xs => .ok (.val (.tup xs)) M
    | none => .stuck)
  | _ => .stuck
section
variable {X : Cx}
theorem blt_len : CallR X (.builtin "len") (rCall X.K lenS) := by
  intro pins s σ H xs us Q I r h
  obtain ⟨F, io, M, ds, W, σ', ha, rl, p⟩ := h
  unfold lenS at p
  split at p
  · rename_i z
    obtain ⟨v, rfl, h1⟩ := relL1 rl
    obtain rfl := (show v = V.str z from h1)
    split at p
    · rename_i hz
      exact call_len_str pins s σ H _ us Q I r ⟨z, rfl, hz, post_val p ha rfl⟩
    · exact p.elim
  · rename_i ns
    obtain ⟨v, rfl, h1⟩ := relL1 rl
    obtain ⟨a, rfl, q⟩ := (show ∃ a, v = V.ref a ∧ SqL X.K F a (ns.map V.int) from h1)
    have := post_val p ha rfl
    exact call_len_seq pins s σ H _ us Q I r ⟨a, ns.map V.int, rfl, .inl (Same.seq ha.sub q), by rw [List.length_map]; exact this⟩
  · obtain ⟨v, rfl, h1⟩ := relL1 rl
    split at p
    · rename_i xs e
      obtain ⟨a, vs, rfl, q, l⟩ := ha.seqA h1 e
      have := post_val p ha rfl
      exact call_len_seq pins s σ H _ us Q I r ⟨a, vs, rfl, q, by rw [← l.length]; exact this⟩
    · split at p
      · rename_i ks ds' e
        obtain ⟨a, kvs, rfl, q, n, l⟩ := ha.dicK h1 e
        have := post_val p ha rfl
        refine call_lenD pins s σ H _ us Q I r ⟨a, kvs, rfl, q, ?_⟩
        rw [← n, List.length_map] at this
        exact this
      · exact p.elim
  · exact p.elim
theorem blt_abs : CallR X (.builtin "abs") (rCall X.K absS) := by
  intro pins s σ H xs us Q I r h
  obtain ⟨F, io, M, ds, W, σ', ha, rl, p⟩ := h
  unfold absS at p
  split at p
  · rename_i i
    obtain ⟨v, rfl, h1⟩ := relL1 rl
    obtain rfl := (show v = V.int i from h1)
    exact call_abs pins s σ H _ us Q I r ⟨i, rfl, post_val p ha rfl⟩
  · exact p.elim
theorem blt_int : CallR X (.type "int") (rCall X.K intS) := by
  intro pins s σ H xs us Q I r h
  obtain ⟨F, io, M, ds, W, σ', ha, rl, p⟩ := h
  unfold intS at p
  split at p
  · rename_i i
    obtain ⟨v, rfl, h1⟩ := relL1 rl
    obtain rfl := (show v = V.int i from h1)
    exact call_int1 pins s σ H _ us Q I r (.inl ⟨i, rfl, post_val p ha rfl⟩)
  · rename_i b
    obtain ⟨v, rfl, h1⟩ := relL1 rl
    obtain rfl := (show v = V.bl b from h1)
    exact call_int1 pins s σ H _ us Q I r (.inr ⟨b, rfl, post_val p ha rfl⟩)
  · rename_i x
    obtain ⟨v, rfl, h1⟩ := relL1 rl
    obtain rfl := (show v = V.str x from h1)
    split at p
    · rename_i hz
      split at p
      · rename_i n e
        exact call_int_str pins s σ H _ us Q I r ⟨x, n, rfl, e, hz, post_val p ha rfl⟩
      · exact p.elim
    · exact p.elim
  · exact p.elim
theorem blt_str : CallR X (.type "str") (rCall X.K strS) := by
  intro pins s σ H xs us Q I r h
  obtain ⟨F, io, M, ds, W, σ', ha, rl, p⟩ := h
  unfold strS at p
  split at p
  · rename_i i
    obtain ⟨v, rfl, h1⟩ := relL1 rl
    obtain rfl := (show v = V.int i from h1)
    split at p
    · rename_i hz
      exact call_str_int pins s σ H _ us Q I r ⟨i, rfl, hz, post_val p ha rfl⟩
    · exact p.elim
  · rename_i x
    obtain ⟨v, rfl, h1⟩ := relL1 rl
    obtain rfl := (show v = V.str x from h1)
    exact SkE.call_str_str pins s σ H _ us Q I r ⟨x, rfl, post_val p ha rfl⟩
  · exact p.elim
theorem lI_rel {K : PySem.W.Frag} {F H : Hp} {io : List Addr} {M : Mem} {d : D} {v : V} {ns : List Int} (ha : HA K F io H M) (r : Rel K F io d v) (e : lI M d = some ns) : ∃ a, v = .ref a ∧ H a = some (.lst (ns.map V.int)) := by
  unfold lI at e
  cases h : seqL M d with
  | none => rw [h] at e; cases e
  | some xs =>
    rw [h] at e
    obtain ⟨a, vs, rfl, q, l⟩ := ha.lst r h
    exact ⟨a, rfl, by rw [q, ints_rel l e]⟩
theorem blt_max (hc : X.calm = true) : CallR X (.builtin "max") (rCall X.K maxS) := by
  intro pins s σ H xs us Q I r h
  obtain ⟨F, io, M, ds, W, σ', ha, rl, p⟩ := h
  unfold maxS at p
  split at p
  · obtain ⟨v, rfl, h1⟩ := relL1 rl
    split at p
    · rename_i a t e
      obtain ⟨l, rfl, q⟩ := lI_rel ha h1 e
      refine cr_max hc pins s σ H _ us Q I r ⟨l, a :: t, rfl, .of q, Nat.succ_pos _, fun m hm h2 => ?_⟩
      have g := maxF_ge t a
      have hm' := maxF_mem t a
      have h3 := h2 _ hm'
      have h4 : m ≤ maxF a t := by
        rcases List.mem_cons.mp hm with rfl | hm
        · exact g.1
        · exact g.2 m hm
      have : m = maxF a t := Int.le_antisymm h4 h3
      subst this
      exact post_val p ha rfl
    · exact p.elim
  · rename_i i j
    obtain ⟨v, u, rfl, h1, h2⟩ := relL2 rl
    obtain rfl := (show v = V.int i from h1)
    obtain rfl := (show u = V.int j from h2)
    exact call_max2 hc pins s σ H _ us Q I r ⟨i, j, rfl, post_val p ha rfl⟩
  · exact p.elim
theorem blt_min (hc : X.calm = true) : CallR X (.builtin "min") (rCall X.K minS) := by
  intro pins s σ H xs us Q I r h
  obtain ⟨F, io, M, ds, W, σ', ha, rl, p⟩ := h
  unfold minS at p
  split at p
  · obtain ⟨v, rfl, h1⟩ := relL1 rl
    split at p
    · rename_i a t e
      obtain ⟨l, rfl, q⟩ := lI_rel ha h1 e
      refine cr_min hc pins s σ H _ us Q I r ⟨l, a :: t, rfl, .of q, Nat.succ_pos _, fun m hm h2 => ?_⟩
      have g := minF_le t a
      have hm' := minF_mem t a
      have h3 := h2 _ hm'
      have h4 : minF a t ≤ m := by
        rcases List.mem_cons.mp hm with rfl | hm
        · exact g.1
        · exact g.2 m hm
      have : m = minF a t := Int.le_antisymm h3 h4
      subst this
      exact post_val p ha rfl
    · exact p.elim
  · rename_i i j
    obtain ⟨v, u, rfl, h1, h2⟩ := relL2 rl
    obtain rfl := (show v = V.int i from h1)
    obtain rfl := (show u = V.int j from h2)
    exact call_min2 hc pins s σ H _ us Q I r ⟨i, j, rfl, post_val p ha rfl⟩
  · exact p.elim
theorem blt_sum (hc : X.calm = true) : CallR X (.builtin "sum") (rCall X.K sumS) := by
  intro pins s σ H xs us Q I r h
  obtain ⟨F, io, M, ds, W, σ', ha, rl, p⟩ := h
  unfold sumS at p
  split at p
  · obtain ⟨v, rfl, h1⟩ := relL1 rl
    split at p
    · rename_i ns e
      obtain ⟨l, rfl, q⟩ := lI_rel ha h1 e
      exact cr_sum hc pins s σ H _ us Q I r ⟨l, ns, rfl, .of q, post_val p ha rfl⟩
    · exact p.elim
  · exact p.elim
theorem lB_rel {K : PySem.W.Frag} {F H : Hp} {io : List Addr} {M : Mem} {d : D} {v : V} {ns : List Bool} (ha : HA K F io H M) (r : Rel K F io d v) (e : (seqL M d).bind blsOf = some ns) : ∃ a, v = .ref a ∧ H a = some (.lst (ns.map V.bl)) := by
  cases h : seqL M d with
  | none => rw [h] at e; cases e
  | some xs =>
    rw [h] at e
    obtain ⟨a, vs, rfl, q, l⟩ := ha.lst r h
    exact ⟨a, rfl, by rw [q, bls_rel l e]⟩
theorem blt_all (hc : X.calm = true) : CallR X (.builtin "all") (rCall X.K allS) := by
  intro pins s σ H xs us Q I r h
  obtain ⟨F, io, M, ds, W, σ', ha, rl, p⟩ := h
  unfold allS at p
  split at p
  · obtain ⟨v, rfl, h1⟩ := relL1 rl
    split at p
    · rename_i ns e
      obtain ⟨l, rfl, q⟩ := lB_rel ha h1 e
      exact cr_all hc pins s σ H _ us Q I r ⟨l, ns, rfl, .of q, post_val p ha rfl⟩
    · exact p.elim
  · exact p.elim
theorem blt_any (hc : X.calm = true) : CallR X (.builtin "any") (rCall X.K anyS) := by
  intro pins s σ H xs us Q I r h
  obtain ⟨F, io, M, ds, W, σ', ha, rl, p⟩ := h
  unfold anyS at p
  split at p
  · obtain ⟨v, rfl, h1⟩ := relL1 rl
    split at p
    · rename_i ns e
      obtain ⟨l, rfl, q⟩ := lB_rel ha h1 e
      exact cr_any hc pins s σ H _ us Q I r ⟨l, ns, rfl, .of q, post_val p ha rfl⟩
    · exact p.elim
  · exact p.elim
theorem blt_list : CallR X (.type "list") (rCall X.K listS) := by
  intro pins s σ H xs us Q I r h
  obtain ⟨F, io, M, ds, W, σ', ha, rl, p⟩ := h
  unfold listS at p
  split at p
  · obtain ⟨v, rfl, h1⟩ := relL1 rl
    split at p
    · rename_i xs e
      obtain ⟨a, vs, rfl, q, l⟩ := ha.seqA h1 e
      exact call_list_of pins s σ H _ us Q I r ⟨a, vs, rfl, q, fun b hb => post_lst p ha l hb⟩
    · exact p.elim
  · exact p.elim
theorem blt_tuple : CallR X (.type "tuple") (rCall X.K tupleS) := by
  intro pins s σ H xs us Q I r h
  obtain ⟨F, io, M, ds, W, σ', ha, rl, p⟩ := h
  unfold tupleS at p
  split at p
  · rename_i xs
    obtain ⟨v, rfl, h1⟩ := relL1 rl
    obtain ⟨a, vs, rfl, q, l⟩ := ha.tup h1
    exact call_tuple_of pins s σ H _ us Q I r ⟨a, vs, rfl, .inr ⟨q, post_val p ha h1⟩⟩
  · obtain ⟨v, rfl, h1⟩ := relL1 rl
    split at p
    · rename_i xs e
      obtain ⟨a, vs, rfl, q, l⟩ := ha.lst h1 e
      exact call_tuple_of pins s σ H _ us Q I r ⟨a, vs, rfl, .inl ⟨.of q, fun b hb => post_tup p ha l hb⟩⟩
    · exact p.elim
  · exact p.elim
end
/-- a built-in by its name: is it a type; its meaning -/
def bltF (x : Str) : Option (List D → Mem → R RV) :=
  if x = "len" then some lenS else if x = "abs" then some absS else if x = "int" then some intS else if x = "str" then some strS
  else if x = "max" then some maxS else if x = "min" then some minS else if x = "sum" then some sumS else if x = "all" then some allS
  else if x = "any" then some anyS else if x = "list" then some listS else if x = "tuple" then some tupleS else none
/-- what bltF gives is called so -/
structure Blt (X : Cx) (x : Str) (f : List D → Mem → R RV) : Prop where
  ex : ∃ u, bootBuiltins x = some u ∧ ((∃ id, u = .builtin id) ∨ ∃ T, u = .type T) ∧ CallR X u (rCall X.K f)
  nn : x ≠ "__name__"
  nd : (x == ("__debug__" : Str)) = false
theorem bltF_ok {X : Cx} (hc : X.calm = true) {x : Str} {f : List D → Mem → R RV} (h : bltF x = some f) : Blt X x f := by
  unfold bltF at h
  split at h
  · rename_i e; subst e; cases h; exact ⟨⟨_, PySem.boot_len, .inl ⟨_, rfl⟩, blt_len⟩, by decide +kernel, by decide +kernel⟩
  split at h
  · rename_i e; subst e; cases h; exact ⟨⟨_, by decide +kernel, .inl ⟨_, rfl⟩, blt_abs⟩, by decide +kernel, by decide +kernel⟩
  split at h
  · rename_i e; subst e; cases h; exact ⟨⟨_, by decide +kernel, .inr ⟨_, rfl⟩, blt_int⟩, by decide +kernel, by decide +kernel⟩
  split at h
  · rename_i e; subst e; cases h; exact ⟨⟨_, by decide +kernel, .inr ⟨_, rfl⟩, blt_str⟩, by decide +kernel, by decide +kernel⟩
  split at h
  · rename_i e; subst e; cases h; exact ⟨⟨_, by decide +kernel, .inl ⟨_, rfl⟩, blt_max hc⟩, by decide +kernel, by decide +kernel⟩
  split at h
  · rename_i e; subst e; cases h; exact ⟨⟨_, by decide +kernel, .inl ⟨_, rfl⟩, blt_min hc⟩, by decide +kernel, by decide +kernel⟩
  split at h
  · rename_i e; subst e; cases h; exact ⟨⟨_, by decide +kernel, .inl ⟨_, rfl⟩, blt_sum hc⟩, by decide +kernel, by decide +kernel⟩
  split at h
  · rename_i e; subst e; cases h; exact ⟨⟨_, by decide +kernel, .inl ⟨_, rfl⟩, blt_all hc⟩, by decide +kernel, by decide +kernel⟩
  split at h
  · rename_i e; subst e; cases h; exact ⟨⟨_, by decide +kernel, .inl ⟨_, rfl⟩, blt_any hc⟩, by decide +kernel, by decide +kernel⟩
  split at h
  · rename_i e; subst e; cases h; exact ⟨⟨_, by decide +kernel, .inr ⟨_, rfl⟩, blt_list⟩, by decide +kernel, by decide +kernel⟩
  split at h
  · rename_i e; subst e; cases h; exact ⟨⟨_, by decide +kernel, .inr ⟨_, rfl⟩, blt_tuple⟩, by decide +kernel, by decide +kernel⟩
  · cases h
end Pc

set_option Elab.async false
set_option linter.all false
set_option maxRecDepth 100000
set_option maxHeartbeats 2000000
set_option autoImplicit false
/-! PcRp: repr of ints, texts, lists and tuples -/
namespace Pc
open PySem PySem.Spec PyProof.Rows L2
def reprS (ds : List D) (M : Mem) : R RV := match ds with
  | [d] => (match d.py M with
    | some p => if p.showable && !p.hasDict && decide (p.depth ≤ 50) && decide (p.shown.length ≤ sizeLine) then .ok (.val (.str p.shown)) M else .stuck
    | none => .stuck)
  | _ => .stuck
theorem blt_repr {X : Cx} (hg : X.A.guards = some []) (hu : X.A.units + 65 < cLine) : CallR X (.builtin "repr") (rCall X.K reprS) := by
  intro pins s σ H xs us Q I r h
  obtain ⟨F, io, M, ds, W, σ', ha, rl, p⟩ := h
  unfold reprS at p
  split at p
  · rename_i d
    obtain ⟨v, rfl, h1⟩ := relL1 rl
    split at p
    · rename_i q hq
      split at p
      · rename_i hc
        simp only [Bool.and_eq_true, Bool.not_eq_true', decide_eq_true_eq] at hc
        obtain ⟨⟨⟨c1, c2⟩, c3⟩, c4⟩ := hc
        cases r with
        | @cons _ u _ us' ru rr =>
          cases rr
          have dp := ha.dp h1 hq
          obtain ⟨as, rd⟩ := Dp.reads I q v u dp ru
          have fin : ∀ (h' : Heap) (tk : Tok) (t' : Nat), (∀ b o, s.heap.get? b = some o → h'.get? b = some o) → EP X pins σ Q (.str q.shown tk) { s with heap := h', toks := t' } := fun h' tk t' k => ⟨.str q.shown, H, I.kept k, ⟨tk, rfl⟩, post_val p ha rfl⟩
          cases rd with
          | none => exact PySem.P.repr_of_none (fin _ _ _ fun _ _ z => z)
          | bool b => exact PySem.P.repr_of_bool (fin _ _ _ fun _ _ z => z)
          | int i t => exact PySem.P.repr_of_int (of_decide_eq_true c1) (fin _ _ _ fun _ _ z => z)
          | str x t => exact PySem.P.repr_of_str (fin _ _ _ fun _ _ z => z) c4
          | list h1 h2 h3 h4 => exact repr_of_reads' (Reads.list h1 h2 h3 h4) c1 (PySem.PyData.noDict_hsm c2) hg (by omega) (fun _ _ z => z) (fun h' u tk k => fin h' u tk k) c4
          | tuple h1 h2 h3 h4 => exact repr_of_reads' (Reads.tuple h1 h2 h3 h4) c1 (PySem.PyData.noDict_hsm c2) hg (by omega) (fun _ _ z => z) (fun h' u tk k => fin h' u tk k) c4
          | dict h1 h2 h3 h4 h5 => cases c2
      · exact p.elim
    · exact p.elim
  · exact p.elim
end Pc

set_option Elab.async false
set_option linter.all false
set_option maxRecDepth 100000
set_option maxHeartbeats 1000000
set_option autoImplicit false
/-! Pc8: calls -/
namespace Pc
open PySem PySem.Spec PyProof.Rows L2

def noStar : Expr → Bool
  | .Starred .. => false
  | _ => true
theorem star_cons {e : Expr} (h : noStar e = true) (es : List Expr) (env : PySem.Env) : starEach (e :: es) env = (false, eval e env) :: starEach es env := by
  cases e <;> first | rfl | cases h
theorem star_any : ∀ {es : List Expr}, es.all noStar = true → ∀ (env : PySem.Env) (pos : Pos), (backTo pos (starEach es env)).any (·.1) = false
  | [], _, _, _ => rfl
  | e :: es, h, env, pos => by
    rw [List.all_cons, Bool.and_eq_true] at h
    rw [star_cons h.1]
    show (false || (backTo pos (starEach es env)).any (·.1)) = false
    rw [star_any h.2 env pos]
    rfl
theorem star_all : ∀ {es : List Expr}, es.all noStar = true → ∀ (env : PySem.Env) (pos : Pos), (backTo pos (starEach es env)).all (fun x => !x.1) = true
  | [], _, _, _ => rfl
  | e :: es, h, env, pos => by
    rw [List.all_cons, Bool.and_eq_true] at h
    rw [star_cons h.1]
    show (!false && (backTo pos (starEach es env)).all (fun x => !x.1)) = true
    rw [star_all h.2 env pos]
    rfl
theorem few_of {es : List Expr} (h : es.all noStar = true) (hl : es.length < 30) (env : PySem.Env) (pos : Pos) : methodCallForm (es.length + ([] : List Keyword).length) (backTo pos (starEach es env)) (backToKw pos (keywordEach [] env)) = true := by
  unfold methodCallForm
  have e1 := star_all h env pos
  rw [Bool.and_eq_true, Bool.and_eq_true]
  refine ⟨⟨e1, rfl⟩, ?_⟩
  show decide (es.length + 0 + 0 < 30) = true
  exact decide_eq_true (by omega)
section
variable {X : Cx} {W : WX} {o e : Expr} {es : List Expr} {name : Str} {apos pos : Pos}
/-- what a method call comes to -/
theorem eval_meth (hb : attributeBase o name X.env (eval o X.env) = eval o X.env) (hn : es.all noStar = true) (hl : es.length < 30) (hline : (apos.endLine == pos.line) = true) :
    eval (.Call (.Attribute o name apos) es [] pos) X.env = (do
      let ov ← eval o X.env
      standAt apos.atName
      let (f, first) ← holding [ov] (getMethod ov name (do return (← importBound o X.env).getD true))
      callWith pos f first (backTo pos (starEach es X.env)) (backToKw pos (keywordEach [] X.env))) := by
  rw [arm_eval_Call, hb]
  have hform := few_of hn hl X.env pos
  have hpos : methodCallPos true o X.env apos pos = pure pos := by unfold methodCallPos; simp [hline]
  unfold methodCall
  rw [hform, hpos]
  rfl
/-- a method of a built-in type, by its name -/
structure MethB (X : Cx) (name : Str) (T : String) (f : D → List D → Mem → R RV) : Prop where
  ex : ∃ id, PlainAttrs T ∧ Slot T name id ∧ typeOf (.builtin id) = pure (.type "method_descriptor") ∧ MtR X id (rMeth X.K f)
/-- a function's promise by its meaning -/
def spF (K : PySem.W.Frag) (φ : List D → Mem → R RV) (n : Nat) : Sp := fun vs H Q E => vs.length = n ∧ ∃ F io M ds, HA K F io H M ∧ RelL K F io ds vs ∧ PostE K (fun c d _ H' => E c d H') F io H [] Q (φ ds M)
theorem spF_len {K : PySem.W.Frag} {φ : List D → Mem → R RV} {n : Nat} : ∀ vs H Q E, spF K φ n vs H Q E → vs.length = n := fun _ _ _ _ h => h.1
theorem spF_of {K : PySem.W.Frag} {φ : List D → Mem → R RV} {n : Nat} {W : WX} {F H : Hp} {io : List Addr} {M : Mem} {σ : St} {Q : VK} {ds : List D} {vs : List V} (ha : HA K F io H M) (rl : RelL K F io ds vs) (hn : ds.length = n) (p : PostE K W F io H σ Q (φ ds M)) :
    spF K φ n vs H Q (WE W σ) := by
  refine ⟨by rw [← rl.length]; exact hn, F, io, M, ds, ha, rl, ?_⟩
  cases h : φ ds M with
  | ok rv M' => rw [h] at p; exact p
  | exc c ns ds M' => rw [h] at p; exact p
  | stuck => rw [h] at p; exact p
/-- the promise of a def where no repr is under way -/
structure FnOkG (P : Program) (w : World) (K : PySem.W.Frag) (mg : Str → Option Value) (base : Heap) (CX : CXT) (k : Nat) (f : Addr) (fd : FuncData) (ps : List Str) (sp : Sp) : Prop where
  len : ∀ vs H Q E, sp vs H Q E → vs.length = ps.length
  run : ∀ (A : Around) (outer : List PySem.Env) (s : Shared) (H : Hp) (args : Args) (us : List Value) (vs : List V) (Q : VK) (E : XK), A.guards = some [] → Room k A → Env0 P w K mg base A outer s H → BindsTo s fd args (ps.zip us) → Vals vs us → sp vs H Q E →
    codeAny (model P w) A (.call (.ref f) args) (L2.CR CX outer P w H s Q E) s
/-- a def of the text that keeps its meaning's promise: f its address, n its parameters -/
structure FnM (X : Cx) (lev : Nat) (f : Addr) (n : Nat) (φ : List D → Mem → R RV) : Prop where
  gd : X.A.guards = some []
  ex : ∃ fd ps, FnOkG X.prog X.w X.K X.mg X.base (L2.CX X.prog X.w) lev f fd ps (spF X.K φ n) ∧ Binds X.K fd ps []
/-- a def called by values -/
theorem run_fm {lev n : Nat} {f : Addr} {φ : List D → Mem → R RV} {pins : List (Addr × Obj)} {σ : St} {H : Hp} {s : Shared} {Q : VK} {us : List Value} {vs : List V} (F : FnM X lev f n φ) (hr : Room lev X.A) (tk : Takes X W)
    (I : Inv X pins σ H s) (r : Vals vs us) (h : spF X.K φ n vs H Q (WE W σ)) : wpAny (model X.prog X.w) X.A (call (.ref f) us) (EP X pins σ Q) X.xe s := by
  have gd := F.gd
  obtain ⟨fd, ps, F, b⟩ := F.ex
  have hl : us.length = ps.length := by rw [← r.length]; exact F.len _ _ _ _ h
  have b' := b s us I.kIn (by rw [List.append_nil]; exact hl)
  rw [List.append_nil] at b'
  refine wpAny_call (codeAny_mono (F.run X.A X.stack s H ⟨us, []⟩ us vs Q (WE W σ) gd hr I.env0 b' r h) fun r s' hq => ?_)
  cases r with
  | error e => exact passAt tk σ pins H s e s' I hq
  | ok fl =>
    cases fl with
    | ret u => exact I.after hq
    | next => exact False.elim hq
    | brk => exact False.elim hq
    | cont => exact False.elim hq
/-! ### methods -/
/-- the built-in types' methods: by the receiver's type -/
abbrev Alts := List (String × (D → List D → Mem → R RV))
def tyD (M : Mem) : D → Option String
  | .str _ => some "str"
  | .lst _ => some "list"
  | .dic _ _ => some "dict"
  | .dit _ _ => some "dict"
  | .ref i => match M[i]? with
    | some (.lst _) => some "list"
    | some (.dk _ _) => some "dict"
    | some (.dt _ _) => some "dict"
    | _ => none
  | _ => none
theorem tyD_rel {K : PySem.W.Frag} {F H : Hp} {io : List Addr} {M : Mem} {d : D} {x : V} {T : String} (ha : HA K F io H M) (r : Rel K F io d x) (e : tyD M d = some T) : tyV K T x H := by
  cases d with
  | str z => rw [show x = .str z from r]; cases e; rfl
  | lst xs =>
    cases e
    obtain ⟨a, vs, rfl, q, _⟩ := ha.lst (xs := xs) r rfl
    exact .inl ⟨rfl, vs, .of q⟩
  | dic ks ds =>
    cases e
    obtain ⟨a, vs, rfl, q, _⟩ := ha.dicK (ks := ks) (ds := ds) r rfl
    exact .inr (.inr (.inl ⟨rfl, .inl ⟨vs, q⟩⟩))
  | dit ks ds =>
    cases e
    obtain ⟨a, vs, rfl, q, _⟩ := ha.dicT (ks := ks) (ds := ds) r rfl
    exact .inr (.inr (.inl ⟨rfl, .inr ⟨vs, q⟩⟩))
  | ref i =>
    unfold tyD at e
    dsimp only at e
    split at e
    · rename_i xs h
      cases e
      obtain ⟨a, vs, rfl, q, _⟩ := ha.lst (xs := xs) r (by rw [seqL, h])
      exact .inl ⟨rfl, vs, .of q⟩
    · rename_i ks ds h
      cases e
      obtain ⟨a, vs, rfl, q, _⟩ := ha.dicK (ks := ks) (ds := ds) r (by rw [Pc.dicK, h])
      exact .inr (.inr (.inl ⟨rfl, .inl ⟨vs, q⟩⟩))
    · rename_i ks ds h
      cases e
      obtain ⟨a, vs, rfl, q, _⟩ := ha.dicT (ks := ks) (ds := ds) r (by rw [Pc.dicT, h])
      exact .inr (.inr (.inl ⟨rfl, .inr ⟨vs, q⟩⟩))
    · cases e
  | _ => cases e
/-- an own class's method: its number of parameters (self among them) and its meaning -/
abbrev OwnM := Str → Option (Nat × (List D → Mem → R RV))
/-- the own classes are right about the method -/
structure OwnOk (X : Cx) (lev : Nat) (name : Str) (own : OwnM) : Prop where
  ok : ∀ c n φ, own c = some (n, φ) → ∃ g, Cls X.K (He.ga X.K c) ∧ Meth X.K (He.ga X.K c) name g ∧ FnM X lev g n φ
def mMeth (alts : Alts) (own : OwnM) (name : Str) (m : ME) (ms : MDs) : ME := fun env M => (mD m env M).bind fun d M1 =>
  match tyD M1 d with
  | some T => (match alts.lookup T with
    | some f => (ms env M1).bind fun ds M2 => f d ds M2
    | none => .stuck)
  | none => match insOf M1 d with
    | some (c, ns, _) => (match own c with
      | some (n, φ) => if name ∈ ns then .stuck else (ms env M1).bind fun ds M2 => if (d :: ds).length = n then φ (d :: ds) M2 else .stuck
      | none => .stuck)
    | none => .stuck
theorem lookup_none_of {f : Str} : ∀ {fs : List (Str × V)}, f ∉ fs.map (·.1) → fs.lookup f = none
  | [], _ => rfl
  | (g, v) :: r, h => by
    rw [List.map_cons, List.mem_cons, not_or] at h
    rw [List.lookup_cons, show (f == g) = false from by simpa using h.1]
    exact lookup_none_of h.2
theorem pm_meth {alts : Alts} {own : OwnM} {m : ME} {ms : MDs} {lev : Nat} (hr : Room lev X.A) (tk : Takes X W) (ho : PE X o (tE X.K W m)) (ha : PA X es (tDs X.K W ms)) (hsup : notSuper o = true) (hn : es.all noStar = true) (hl : es.length < 30) (hline : (apos.endLine == pos.line) = true)
    (hms : es = [] → ms = mNil) (hb : ∀ T f, alts.lookup T = some f → MethB X name T f) (hown : OwnOk X lev name own) : PE X (.Call (.Attribute o name apos) es [] pos) (tE X.K W (mMeth alts own name m ms)) := by
  have hbase := base_of hsup name X.env (eval o X.env)
  refine ⟨fun pins s σ H Q I h => ?_⟩
  rw [eval_meth hbase hn hl hline]
  have hd := tD_then (m := mD m) (k := fun d env M1 => match tyD M1 d with
    | some T => (match alts.lookup T with
      | some f => (ms env M1).bind fun ds M2 => f d ds M2
      | none => .stuck)
    | none => match insOf M1 d with
      | some (c, ns, _) => (match own c with
        | some (n, φ) => if name ∈ ns then .stuck else (ms env M1).bind fun ds M2 => if (d :: ds).length = n then φ (d :: ds) M2 else .stuck
        | none => .stuck)
      | none => .stuck) (r := fun x H1 => ∃ d M1 F1 io1 env, HA X.K F1 io1 H1 M1 ∧ ER X.K F1 io1 σ env ∧ Rel X.K F1 io1 d x ∧ PostE X.K W F1 io1 H1 σ Q (match tyD M1 d with
    | some T => (match alts.lookup T with
      | some f => (ms env M1).bind fun ds M2 => f d ds M2
      | none => .stuck)
    | none => match insOf M1 d with
      | some (c, ns, _) => (match own c with
        | some (n, φ) => if name ∈ ns then .stuck else (ms env M1).bind fun ds M2 => if (d :: ds).length = n then φ (d :: ds) M2 else .stuck
        | none => .stuck)
      | none => .stuck)) h fun d M1 F1 io1 H1 x env a b c p => ⟨d, M1, F1, io1, env, a, b, c, p⟩
  refine wpAny_bind (thn ((pe_d ho).run pins s σ H _ I hd) fun ov s1 hq => ?_)
  obtain ⟨x, H1, I1, rx, d, M1, F1, io1, env, ha1, er1, rd, p⟩ := hq
  refine wpAny_bind (wpAny_standAt (wpAny_bind (wpAny_holding ?_)))
  -- the arguments, then k
  have args : ∀ {f : Value} {first : List Value} {k : List D → Mem → R RV}, ((∀ h : Heap, X.K.In h → ∃ k', (k' = Keeper.frame ∨ k' = Keeper.machine ∨ k' = Keeper.boundFrame) ∧ PySem.W.Looks (model X.prog X.w) h (keeperOf f) k') ∨ ∃ id, f = .builtin id) →
      PostE X.K W F1 io1 H1 σ Q ((ms env M1).bind k) →
      (∀ us s2 vs H2 ds M2 F2 io2, Inv X pins σ H2 s2 → Vals vs us → HA X.K F2 io2 H2 M2 → Ex F1 io1 H1 F2 io2 H2 → RelL X.K F2 io2 ds vs → PostE X.K W F2 io2 H2 σ Q (k ds M2) → wpAny (model X.prog X.w) X.A (call f (first ++ us)) (EP X pins σ Q) X.xe s2) →
      wpAny (model X.prog X.w) X.A (callWith pos f first (backTo pos (starEach es X.env)) (backToKw pos (keywordEach [] X.env))) (EP X pins σ Q) X.xe s1 := by
    intro f first k hkeep p2 hq
    have hA : tDs X.K W ms σ H1 fun vs H2 => ∃ ds M2 F2 io2, HA X.K F2 io2 H2 M2 ∧ Ex F1 io1 H1 F2 io2 H2 ∧ RelL X.K F2 io2 ds vs ∧ PostE X.K W F2 io2 H2 σ Q (k ds M2) := by
      refine ⟨F1, io1, env, M1, ha1, er1, ?_⟩
      cases q : ms env M1 with
      | stuck => rw [q] at p2; exact p2
      | exc c ns ds M' => rw [q] at p2; exact p2
      | ok ds M2 =>
        rw [q] at p2
        intro F2 io2 H2 vs a b c
        exact ⟨ds, M2, F2, io2, a, b, c, PostE.from_ b p2⟩
    have fin : wpAny (model X.prog X.w) X.A (evalArgs f true (backTo pos (starEach es X.env)) []) (fun a s2 => X.K.In s2.heap ∧ wpAny (model X.prog X.w) X.A (call f (first ++ a.pos) a.kw) (EP X pins σ Q) X.xe s2) X.xe s1 := by
      cases es with
      | nil =>
        rw [hms rfl] at hA
        obtain ⟨F, io, env', M, a0, e0, p0⟩ := hA
        obtain ⟨ds, M2, F2, io2, g1, g2, g3, g4⟩ := p0 F io H1 [] a0 .refl rfl
        refine PySem.evalArgs_none ⟨I1.kIn, ?_⟩
        exact hq [] s1 [] H1 ds M2 F2 io2 I1 .nil g1 g2 g3 g4
      | cons e es =>
        rw [List.all_cons, Bool.and_eq_true] at hn
        have hA' := ha.run pos pins s1 σ H1 _ I1 hA
        rw [star_cons hn.1] at hA' ⊢
        exact Calls.evalArgs_plain (thn hA' fun us s2 ⟨vs, H2, I2, r2, ds, M2, F2, io2, g1, g2, g3, g4⟩ => ⟨I2.kIn, hq us s2 vs H2 ds M2 F2 io2 I2 r2 g1 g2 g3 g4⟩)
    have hany : (((backTo pos (starEach es X.env)).any (·.1) || ([] : List (Option Str × Sem Value)).any (·.1.isNone))) = false := by rw [star_any hn X.env pos]; rfl
    rcases hkeep with hk | ⟨id, rfl⟩
    · exact PySem.W.callWith_of (P := fun h => X.K.In h) hany hk fin
    · exact Calls.callWith_builtin (star_any hn X.env pos) (thn fin fun a s2 hh => hh.2)
  split at p
  · rename_i T hT
    split at p
    · rename_i f hf
      obtain ⟨id, pa, slot, hty, hm⟩ := (hb T f hf).ex
      obtain ⟨t1, t2⟩ := tyV_is I1 rx (tyD_rel ha1 rd hT)
      refine getMethod_builtin t1 pa slot hty t2 ?_
      refine args (first := [ov]) (.inr ⟨id, rfl⟩) p fun us s2 vs H2 ds M2 F2 io2 I2 r2 g1 g2 g3 g4 => ?_
      exact hm pins s2 σ H2 x vs ov us Q I2 rx r2 ⟨F2, io2, M2, d, ds, W, σ, g1, Rel.mono g2.sub g2.ids _ _ rd, g3, g4⟩
    · exact p.elim
  · split at p
    · rename_i c ns ds0 hi
      split at p
      · rename_i n φ hc
        split at p
        · exact p.elim
        · rename_i hns
          obtain ⟨g, cl, me, fm⟩ := hown.ok c n φ hc
          obtain ⟨l, dx, fs, rfl, hH, rfl, _⟩ := ha1.ins rd hi
          obtain rfl : ov = Value.ref l := rx
          refine getmeth_ok I1 hH cl me (lookup_none_of hns) ?_
          refine args (first := [.ref l]) (k := fun ds M2 => if (d :: ds).length = n then φ (d :: ds) M2 else .stuck) (.inl (PySem.W.keeps_K me.kp)) p fun us s2 vs H2 ds M2 F2 io2 I2 r2 g1 g2 g3 g4 => ?_
          split at g4
          · rename_i hlen
            exact run_fm fm hr tk I2 (.cons (show RelV (V.ref l) (Value.ref l) from rfl) r2) (spF_of (ds := d :: ds) g1 ⟨V.ref l, vs, rfl, Rel.mono g2.sub g2.ids _ _ rd, g3⟩ hlen g4)
          · exact g4.elim
      · exact p.elim
    · exact p.elim
end
end Pc

set_option Elab.async false
set_option linter.all false
set_option maxRecDepth 100000
set_option maxHeartbeats 1000000
set_option autoImplicit false
/-! Pc9: calls of defs, of built-ins, of classes; what a call leaves -/
namespace Pc
open PySem PySem.Spec PyProof.Rows L2

/-! ### closed below n -/
mutual
def clD (n : Nat) : D → Bool
  | .ref i => decide (i < n)
  | .tup xs => clL n xs
  | .ctup xs => clL n xs
  | .lst xs => clL n xs
  | .obj _ _ ds => clL n ds
  | .exo _ _ ds => clL n ds
  | .dic _ ds => clL n ds
  | .dit _ ds => clL n ds
  | _ => true
def clL (n : Nat) : List D → Bool
  | [] => true
  | d :: ds => clD n d && clL n ds
end
def clO (n : Nat) : MO → Bool
  | .lst xs => clL n xs
  | .dk _ ds => clL n ds
  | .dt _ ds => clL n ds
  | .ins _ _ ds => clL n ds
section
variable {K : PySem.W.Frag} {F H : Hp} {io : List Addr} {M : Mem} {n : Nat}
mutual
theorem Rel.drop : ∀ (d : D) (v : V), clD n d = true → Rel K F io d v → Rel K F (io.take n) d v
  | .non, _, _, h => h
  | .bl _, _, _, h => h
  | .int _, _, _, h => h
  | .str _, _, _, h => h
  | .tup xs, _, c, h => by
    obtain ⟨a, vs, e, q, r⟩ := (show ∃ a vs, _ = V.ref a ∧ F a = some (.tup vs) ∧ RelL K F io xs vs from h)
    exact ⟨a, vs, e, q, RelL.dropI xs vs c r⟩
  | .ctup xs, _, c, h => by
    obtain ⟨a, vs, e, q, r⟩ := (show ∃ a vs, _ = V.ref a ∧ SqT K F a vs ∧ RelL K F io xs vs from h)
    exact ⟨a, vs, e, q, RelL.dropI xs vs c r⟩
  | .lst xs, _, c, h => by
    obtain ⟨a, vs, e, q, r⟩ := (show ∃ a vs, _ = V.ref a ∧ F a = some (.lst vs) ∧ RelL K F io xs vs from h)
    exact ⟨a, vs, e, q, RelL.dropI xs vs c r⟩
  | .ref i, _, c, h => by
    obtain ⟨a, e, q⟩ := (show ∃ a, _ = V.ref a ∧ io[i]? = some a from h)
    refine ⟨a, e, ?_⟩
    rw [List.getElem?_take, if_pos (of_decide_eq_true c)]
    exact q
  | .obj c ns ds, _, cl, h => by
    obtain ⟨a, dx, fvs, e, q, m, r⟩ := (show ∃ a dx fvs, _ = V.ref a ∧ F a = some (.ins (He.ga K c) dx fvs) ∧ fvs.map (·.1) = ns ∧ RelL K F io ds (fvs.map (·.2)) from h)
    exact ⟨a, dx, fvs, e, q, m, RelL.dropI ds _ cl r⟩
  | .dic ks ds, _, c, h => by
    obtain ⟨a, kvs, e, q, m, r⟩ := (show ∃ a kvs, _ = V.ref a ∧ F a = some (.dK kvs) ∧ kvs.map (·.1) = ks ∧ RelL K F io ds (kvs.map (·.2)) from h)
    exact ⟨a, kvs, e, q, m, RelL.dropI ds _ c r⟩
  | .dit ks ds, _, c, h => by
    obtain ⟨a, kvs, e, q, m, r⟩ := (show ∃ a kvs, _ = V.ref a ∧ F a = some (.dT kvs) ∧ kvs.map (·.1) = ks ∧ RelL K F io ds (kvs.map (·.2)) from h)
    exact ⟨a, kvs, e, q, m, RelL.dropI ds _ c r⟩
  | .scr ns, _, _, h => h
  | .fn _, _, _, h => h
  | .exo c ns ds, _, cl, h => by
    obtain ⟨a, od, fvs, e, q, x, m, r⟩ := (show ∃ a od fvs, _ = V.ref a ∧ F a = some (exo a (He.ga K c) od) ∧ ExD F od fvs ∧ fvs.map (·.1) = ns ∧ RelL K F io ds (fvs.map (·.2)) from h)
    exact ⟨a, od, fvs, e, q, x, m, RelL.dropI ds _ cl r⟩
theorem RelL.dropI : ∀ (ds : List D) (vs : List V), clL n ds = true → RelL K F io ds vs → RelL K F (io.take n) ds vs
  | [], _, _, h => h
  | d :: ds, _, c, h => by
    obtain ⟨v, r, e, h1, h2⟩ := (show ∃ v r, _ = v :: r ∧ Rel K F io d v ∧ RelL K F io ds r from h)
    rw [clL, Bool.and_eq_true] at c
    exact ⟨v, r, e, Rel.drop d v c.1 h1, RelL.dropI ds r c.2 h2⟩
end
theorem MR.drop {a : Addr} {o : MO} (c : clO n o = true) (h : MR K F io H a o) : MR K F (io.take n) H a o := by
  cases o with
  | lst xs => obtain ⟨vs, q, r⟩ := h; exact ⟨vs, q, r.dropI _ _ c⟩
  | dk ks ds => obtain ⟨vs, q, m, r⟩ := h; exact ⟨vs, q, m, r.dropI _ _ c⟩
  | dt ks ds => obtain ⟨vs, q, m, r⟩ := h; exact ⟨vs, q, m, r.dropI _ _ c⟩
  | ins c' ns ds => obtain ⟨dx, vs, q, m, r⟩ := h; exact ⟨dx, vs, q, m, r.dropI _ _ c⟩
theorem HA.drop (h : HA K F io H M) (c : (M.take n).all (clO n) = true) : HA K F (io.take n) H (M.take n) := by
  refine ⟨h.sub, by rw [List.length_take, List.length_take, h.len], h.nd.sublist (List.take_sublist _ _), fun i o e => ?_⟩
  have hi : i < n := by
    have := (List.getElem?_eq_some_iff.mp e).1
    rw [List.length_take] at this
    omega
  have e0 := e
  rw [List.getElem?_take, if_pos hi] at e
  obtain ⟨a, e1, e2, e3⟩ := h.at_ i o e
  exact ⟨a, by rw [List.getElem?_take, if_pos hi]; exact e1, e2, e3.drop (List.all_eq_true.mp c o (List.mem_of_getElem? e0))⟩
theorem Ex.drop {F' H' : Hp} {io' : List Addr} (x : Ex F io H F' io' H') (hn : io.length ≤ n) : Ex F io H F' (io'.take n) H' := by
  refine ⟨x.sub, fun i a e => ?_, x.frame, x.newF, fun b hb => x.newI b (List.mem_of_mem_take hb), x.there⟩
  have hi : i < n := Nat.lt_of_lt_of_le (List.getElem?_eq_some_iff.mp e).1 hn
  rw [List.getElem?_take, if_pos hi]
  exact x.ids i a e
theorem not_take {a : Addr} {i : Nat} (nd : io.Nodup) (e : io[i]? = some a) (hn : n ≤ i) : a ∉ io.take n := fun hm => by
  obtain ⟨j, hj, ej⟩ := List.mem_iff_getElem.mp hm
  rw [List.length_take] at hj
  rw [List.getElem_take] at ej
  obtain ⟨h1, e1⟩ := List.getElem?_eq_some_iff.mp e
  have := (List.getElem_inj nd).mp (ej.trans e1.symm)
  omega
end
/-- what a call leaves: the objects behind n are let go where nothing names them -/
def gcR (n : Nat) : R RV → R RV
  | .ok rv M => if (M.take n).all (clO n) then (match rv with
    | .val d => if clD n d then .ok (.val d) (M.take n) else (match d with
      | .ref i => (match M[i]? with
        | some o => if n ≤ i ∧ clO n o = true then .ok (.own o) (M.take n) else .ok rv M
        | none => .ok rv M)
      | _ => .ok rv M)
    | .own o => if clO n o then .ok (.own o) (M.take n) else .ok rv M) else .ok rv M
  | .exc c ns ds M => if (M.take n).all (clO n) && clL n ds then .exc c ns ds (M.take n) else .exc c ns ds M
  | .stuck => .stuck
section
variable {K : PySem.W.Frag} {W : WX} {F H : Hp} {io : List Addr} {σ : St} {Q : VK} {n : Nat}
theorem post_gc {r : R RV} (hn : io.length ≤ n) (h : PostE K W F io H σ Q (gcR n r)) : PostE K W F io H σ Q r := by
  cases r with
  | stuck => exact h
  | exc c ns ds M =>
    unfold gcR at h
    dsimp only at h
    split at h
    · rename_i hc
      rw [Bool.and_eq_true] at hc
      intro F' io' H' dd a b ⟨fvs, h1, h2, h3, h4⟩
      exact h F' _ H' dd (a.drop hc.1) (b.drop hn) ⟨fvs, h1, h2, h3.dropI _ _ hc.2, h4⟩
    · exact h
  | ok rv M =>
    unfold gcR at h
    dsimp only at h
    split at h
    · rename_i hc
      cases rv with
      | val d =>
        dsimp only at h
        split at h
        · rename_i hd
          intro F' io' H' v a b c
          exact h F' _ H' v (a.drop hc) (b.drop hn) (Rel.drop d v hd c)
        · cases d with
          | ref i =>
            dsimp only at h
            split at h
            · rename_i o ho
              split at h
              · rename_i hio
                intro F' io' H' v a b c
                obtain ⟨l, rfl, hl⟩ := (show ∃ l, v = V.ref l ∧ io'[i]? = some l from c)
                obtain ⟨l', e1, e2, e3⟩ := a.at_ i o ho
                rw [hl] at e1
                cases e1
                refine h F' _ H' _ (a.drop hc) (b.drop hn) ⟨l, rfl, ?_, e2, not_take a.nd hl hio.1, e3.drop hio.2⟩
                refine (b.newI l (List.mem_of_getElem? hl)).resolve_left fun z => ?_
                obtain ⟨j, hj, ej⟩ := List.mem_iff_getElem.mp z
                have := b.ids j l (by rw [List.getElem?_eq_getElem hj, ej])
                obtain ⟨h1, g1⟩ := List.getElem?_eq_some_iff.mp this
                obtain ⟨h2, g2⟩ := List.getElem?_eq_some_iff.mp hl
                have := (List.getElem_inj a.nd).mp (g1.trans g2.symm)
                omega
              · exact h
            · exact h
          | _ => exact h
      | own o =>
        dsimp only at h
        split at h
        · rename_i hd
          intro F' io' H' v a b ⟨l, e, n1, n2, n3, r⟩
          exact h F' _ H' v (a.drop hc) (b.drop hn) ⟨l, e, n1, n2, fun z => n3 (List.mem_of_mem_take z), r.drop hd⟩
        · exact h
    · exact h
/-- a tracked, unnamed thing gets a number -/
theorem HA.alloc {M : Mem} {a : Addr} {o : MO} (h : HA K F io H M) (hF : F a = none) (hi : a ∉ io) (r : MR K F io H a o) : HA K F (io ++ [a]) H (M ++ [o]) := by
  have ids : ∀ (i : Nat) (b : Addr), io[i]? = some b → (io ++ [a])[i]? = some b := fun i b e => by
    rw [List.getElem?_append_left (List.getElem?_eq_some_iff.mp e).1]; exact e
  refine ⟨h.sub, by rw [List.length_append, List.length_append, h.len]; rfl, ?_, fun i w e => ?_⟩
  · exact List.nodup_append.mpr ⟨h.nd, by simp, fun b hb c hc => by rw [List.mem_singleton.mp hc]; exact fun z => hi (z ▸ hb)⟩
  · by_cases hlt : i < M.length
    · rw [List.getElem?_append_left hlt] at e
      obtain ⟨c, e1, e2, e3⟩ := h.at_ i w e
      exact ⟨c, ids i c e1, e2, e3.mono (Same.refl _) ids rfl⟩
    · have hl := (List.getElem?_eq_some_iff.mp e).1
      rw [List.length_append] at hl
      have : i = M.length := by simp at hl; omega
      subst this
      rw [List.getElem?_append_right (Nat.le_refl _), Nat.sub_self] at e
      cases e
      refine ⟨a, by rw [← h.len, List.getElem?_append_right (Nat.le_refl _), Nat.sub_self]; rfl, hF, r.mono (Same.refl _) ids rfl⟩
theorem Ex.alloc {F0 H0 : Hp} {io0 : List Addr} {a : Addr} (x : Ex F0 io0 H0 F io H) (h0 : H0 a = none) : Ex F0 io0 H0 F (io ++ [a]) H :=
  ⟨x.sub, fun i b e => by
    have := x.ids i b e
    rw [List.getElem?_append_left (List.getElem?_eq_some_iff.mp this).1]; exact this, x.frame, x.newF, fun b hb => by
    rcases List.mem_append.mp hb with hb | hb
    · exact x.newI b hb
    · rw [List.mem_singleton.mp hb]; exact .inr h0, x.there⟩
end

/-! ### f(..) -/
def mCall (n : Nat) (φ : List D → Mem → R RV) (ms : MDs) : ME := fun env M => (ms env M).bind fun ds M1 => if ds.length = n then φ ds M1 else .stuck
def mBlt (f : List D → Mem → R RV) (ms : MDs) : ME := fun env M => (ms env M).bind f
def made (i : Nat) (M : Mem) : R RV := match M[i]? with
  | some o => if (M.take i).all (clO i) && clO i o then .ok (.own o) (M.take i) else .stuck
  | none => .stuck
def mMake (isMut : Bool) (c : Str) (n : Nat) (φ : List D → Mem → R RV) (ms : MDs) : ME := fun env M => (ms env M).bind fun ds M1 =>
  if ds.length + 1 = n then (φ (.ref M1.length :: ds) (M1 ++ [.ins c [] []])).bind fun rv M2 => match rv with
    | .val .non => if isMut then .ok (.val (.ref M1.length)) M2 else made M1.length M2
    | _ => .stuck
  else .stuck
section
variable {X : Cx} {W : WX} {e : Expr} {es : List Expr} {x : Str} {p pos : Pos}
/-- a global thing is called: its arguments, then the call by values -/
theorem pm_global {u : Value} {ms : MDs} {k : List D → Mem → R RV} (hg : Gl X x) (hm : X.mg x = some u ∨ (X.mg x = none ∧ bootBuiltins x = some u ∧ x ≠ "__name__")) (hd : (x == ("__debug__" : Str)) = false)
    (hk : (∀ h : Heap, X.K.In h → ∃ k', (k' = Keeper.frame ∨ k' = Keeper.machine ∨ k' = Keeper.boundFrame) ∧ PySem.W.Looks (model X.prog X.w) h (keeperOf u) k') ∨ (∃ id, u = .builtin id) ∨ ∃ T, u = .type T)
    (hn : es.all noStar = true) (hms : es = [] → ms = mNil) (ha : PA X es (tDs X.K W ms))
    (hq : ∀ pins s σ H Q us vs ds M F io, Inv X pins σ H s → Vals vs us → HA X.K F io H M → RelL X.K F io ds vs → PostE X.K W F io H σ Q (k ds M) → wpAny (model X.prog X.w) X.A (call u us) (EP X pins σ Q) X.xe s) :
    PE X (.Call (.Name x p) es [] pos) (tE X.K W (fun env M => (ms env M).bind k)) := by
  refine ⟨fun pins s σ H Q I h => ?_⟩
  have hA : tDs X.K W ms σ H fun vs H2 => ∃ ds M2 F2 io2, HA X.K F2 io2 H2 M2 ∧ RelL X.K F2 io2 ds vs ∧ PostE X.K W F2 io2 H2 σ Q (k ds M2) :=
    tDs_then h fun ds M1 F1 io1 H1 xs env a b c p => ⟨ds, M1, F1, io1, a, c, p⟩
  refine wpAny_Call_Name_kw ?_
  have ld : ∀ {R : Value → Shared → Prop}, R u s → wpAny (model X.prog X.w) X.A (eval (.Name x p) X.env) R X.xe s := fun {R} hr => by
    rcases hm with hm | ⟨h1, h2, h3⟩
    · exact ld_glob I hg hm hr hd
    · exact ld_blt I hg h1 h2 hr h3 hd
  refine ld ?_
  have fin : wpAny (model X.prog X.w) X.A (evalArgs u true (backTo pos (starEach es X.env)) []) (fun a s2 => X.K.In s2.heap ∧ wpAny (model X.prog X.w) X.A (call u ([] ++ a.pos) a.kw) (EP X pins σ Q) X.xe s2) X.xe s := by
    cases es with
    | nil =>
      rw [hms rfl] at hA
      obtain ⟨F, io, env', M, a0, e0, p0⟩ := hA
      obtain ⟨ds, M2, F2, io2, g1, g3, g4⟩ := p0 F io H [] a0 .refl rfl
      exact PySem.evalArgs_none ⟨I.kIn, hq pins s σ H Q [] [] ds M2 F2 io2 I .nil g1 g3 g4⟩
    | cons e es =>
      rw [List.all_cons, Bool.and_eq_true] at hn
      have hA' := ha.run pos pins s σ H _ I hA
      rw [star_cons hn.1] at hA' ⊢
      exact Calls.evalArgs_plain (thn hA' fun us s2 ⟨vs, H2, I2, r2, ds, M2, F2, io2, g1, g3, g4⟩ => ⟨I2.kIn, hq pins s2 σ H2 Q us vs ds M2 F2 io2 I2 r2 g1 g3 g4⟩)
  have hany : (((backTo pos (starEach es X.env)).any (·.1) || ([] : List (Option Str × Sem Value)).any (·.1.isNone))) = false := by rw [star_any hn X.env pos]; rfl
  show wpAny (model X.prog X.w) X.A (callWith pos u [] (backTo pos (starEach es X.env)) []) (EP X pins σ Q) X.xe s
  rcases hk with hk | ⟨id, rfl⟩ | ⟨T, rfl⟩
  · exact PySem.W.callWith_of (P := fun h => X.K.In h) hany hk fin
  · exact Calls.callWith_builtin (star_any hn X.env pos) (thn fin fun a s2 hh => hh.2)
  · refine PySem.W.callWith_of (P := fun _ => True) hany (fun h _ => ⟨.machine, .inr (.inl rfl), ?_⟩) (thn fin fun a s2 hh => ⟨trivial, hh.2⟩)
    exact .now
theorem pm_call {lev n : Nat} {f : Addr} {φ : List D → Mem → R RV} {ms : MDs} (F : FnM X lev f n φ) (hr : Room lev X.A) (tk : Takes X W) (hg : Gl X x) (hm : X.mg x = some (.ref f)) (hk : PySem.W.keepIn X.K (.ref f) = true) (hd : (x == ("__debug__" : Str)) = false)
    (hn : es.all noStar = true) (hms : es = [] → ms = mNil) (ha : PA X es (tDs X.K W ms)) : PE X (.Call (.Name x p) es [] pos) (tE X.K W (mCall n φ ms)) :=
  pm_global hg (.inl hm) hd (.inl (PySem.W.keeps_K hk)) hn hms ha fun pins s σ H Q us vs ds M F' io I r a rl p => by
    split at p
    · rename_i hl
      exact run_fm F hr tk I r (spF_of a rl hl p)
    · exact p.elim
theorem pm_blt {f : List D → Mem → R RV} {ms : MDs} (B : Blt X x f) (hg : Gl X x) (hm : X.mg x = none)
    (hn : es.all noStar = true) (hms : es = [] → ms = mNil) (ha : PA X es (tDs X.K W ms)) : PE X (.Call (.Name x p) es [] pos) (tE X.K W (mBlt f ms)) := by
  obtain ⟨u, hb, hu, hc⟩ := B.ex
  exact pm_global hg (.inr ⟨hm, hb, B.nn⟩) B.nd (.inr hu) hn hms ha fun pins s σ H Q us vs ds M F' io I r a rl p => hc pins s σ H vs us Q I r ⟨F', io, M, ds, W, σ, a, rl, p⟩
theorem guards_make {A : Around} {C : Addr} {us : List Value} {kw : List (Str × Value)} : (A.under (.builtin "type.__call__" ⟨.ref C :: us, kw⟩)).guards = A.guards := by
  first | rfl | simp [Around.under, Code.guards, Code.isGuard, guardIds, pushGuards]
/-- a new instance -/
theorem run_mk {c : Str} {lev n : Nat} {fI : Addr} {φ : List D → Mem → R RV} {b : Bool} {pins : List (Addr × Obj)} {σ : St} {H : Hp} {s : Shared} {Q : VK} {us : List Value} {vs : List V} {F : Hp} {io : List Addr} {ds : List D} {M : Mem}
    (Mk_ : Mk X.K (He.ga X.K c) fI) (Fm : FnM X lev fI n φ) (hr : Room (lev + 1) X.A) (tk : Takes X W) (I : Inv X pins σ H s) (r : Vals vs us) (ha : HA X.K F io H M) (rl : RelL X.K F io ds vs)
    (p : PostE X.K W F io H σ Q (if ds.length + 1 = n then (φ (.ref M.length :: ds) (M ++ [.ins c [] []])).bind fun rv M2 => match rv with
      | .val .non => if b then .ok (.val (.ref M.length)) M2 else made M.length M2
      | _ => .stuck
    else .stuck)) : wpAny (model X.prog X.w) X.A (call (.ref (He.ga X.K c)) us) (EP X pins σ Q) X.xe s := by
  split at p
  · rename_i hl
    have gd := Fm.gd
    obtain ⟨fd, ps, F0, bd⟩ := Fm.ex
    have nx : H (s.heap.objs.size + 1) = none := I.hok.fresh (Nat.le_succ _)
    have ndx : H s.heap.objs.size = none := I.hok.fresh (Nat.le_refl _)
    have I2 := Inv.made (C := He.ga X.K c) I
    generalize hx : s.heap.objs.size + 1 = x at *
    generalize hdx : s.heap.objs.size = dx at *
    have nex : dx ≠ x := by omega
    have r2 : Vals (V.ref x :: vs) (Value.ref x :: us) := .cons rfl r
    -- the heap with the new instance
    have old : ∀ b o, H b = some o → (upd (upd H dx (.own x)) x (.ins (He.ga X.K c) dx [])) b = some o := fun b o e => by
      rw [upd_ne (ne_of_none e nx), upd_ne (ne_of_none e ndx)]; exact e
    have ha1 : HA X.K F io (upd (upd H dx (.own x)) x (.ins (He.ga X.K c) dx [])) M := (ha.new ndx).new (by rw [upd_ne (Ne.symm nex)]; exact nx)
    have x1 : Ex F io H F io (upd (upd H dx (.own x)) x (.ins (He.ga X.K c) dx [])) := (Ex.new ha ndx).trans (Ex.new (ha.new ndx) (by rw [upd_ne (Ne.symm nex)]; exact nx))
    have ni : x ∉ io := ha.notin nx
    have ha2 : HA X.K F (io ++ [x]) (upd (upd H dx (.own x)) x (.ins (He.ga X.K c) dx [])) (M ++ [.ins c [] []]) :=
      ha1.alloc (ha.fnone nx) ni ⟨dx, [], upd_same, rfl, rfl⟩
    have x2 := Ex.alloc x1 nx
    have rx : Rel X.K F (io ++ [x]) (.ref M.length) (.ref x) := ⟨x, rfl, by rw [← ha.len, List.getElem?_append_right (Nat.le_refl _), Nat.sub_self]; rfl⟩
    have rl2 : RelL X.K F (io ++ [x]) (.ref M.length :: ds) (V.ref x :: vs) := ⟨V.ref x, vs, rfl, rx, RelL.mono (Same.refl _) x2.ids _ _ rl⟩
    have p2 := PostE.from_ x2 p
    have sp : spF X.K φ n (V.ref x :: vs) (upd (upd H dx (.own x)) x (.ins (He.ga X.K c) dx [])) (fun v H2 => v = .non ∧ Q (.ref x) H2) (WE W σ) := by
      refine spF_of ha2 rl2 (by rw [List.length_cons]; exact hl) ?_
      cases q : φ (.ref M.length :: ds) (M ++ [.ins c [] []]) with
      | stuck => rw [q] at p2; exact p2
      | exc c ns ds M' => rw [q] at p2; exact p2
      | ok rv M2 =>
        rw [q] at p p2
        intro F3 io3 H3 v a3 b3 c3
        dsimp only [R.bind] at p p2
        split at p2
        · have p3 := PostE.from_ b3 p2
          have hx3 : io3[M.length]? = some x := b3.ids _ _ (by rw [← ha.len, List.getElem?_append_right (Nat.le_refl _), Nat.sub_self]; rfl)
          refine ⟨c3, ?_⟩
          cases b with
          | true =>
            exact post_val p3 a3 ⟨x, rfl, hx3⟩
          | false =>
            have pz : PostE X.K W F io H σ Q (made M.length M2) := p
            unfold made at pz
            cases ho : M2[M.length]? with
            | none => rw [ho] at pz; exact pz.elim
            | some o =>
              rw [ho] at pz
              dsimp only at pz
              split at pz
              · rename_i hc
                rw [Bool.and_eq_true] at hc
                obtain ⟨l', e1, e2, e3⟩ := a3.at_ _ o ho
                rw [hx3] at e1
                cases e1
                exact pz F3 _ H3 _ (a3.drop hc.1) ((x2.trans b3).drop (Nat.le_of_eq ha.len)) ⟨x, rfl, nx, e2, not_take a3.nd hx3 (Nat.le_refl _), e3.drop hc.2⟩
              · exact pz.elim
        · exact p2.elim
    have hl2 : (Value.ref x :: us).length = ps.length := by rw [← r2.length]; exact F0.len _ _ _ _ sp
    have bb := bd _ (Value.ref x :: us) I2.kIn (by rw [List.append_nil]; exact hl2)
    rw [List.append_nil] at bb
    subst hdx
    subst hx
    refine wpAny_call (make_map (f := fI) I.kIn Mk_.makes Mk_.init (beq_iff_eq.mp Mk_.fn) (codeAny_mono (F0.run _ X.stack _ _ ⟨Value.ref _ :: us, []⟩ (Value.ref _ :: us) _ _ (WE W σ) (guards_make.trans gd) (hr.make _ us [])
      (I2.env0.make _ us []) bb r2 sp) fun r s' hq' => ?_))
    cases r with
    | error e => exact passAt tk σ pins _ _ e s' I2 hq'
    | ok fl =>
      cases fl with
      | ret u =>
        obtain ⟨v, H', I3, rv, ev, q3⟩ := I2.after hq'
        subst ev
        exact ⟨rv, ⟨V.ref (s.heap.objs.size + 1), H', I3, rfl, q3⟩⟩
      | next => exact False.elim hq'
      | brk => exact False.elim hq'
      | cont => exact False.elim hq'
  · exact p.elim
theorem pm_make {c : Str} {lev n : Nat} {fI : Addr} {φ : List D → Mem → R RV} {b : Bool} {ms : MDs} (Mk_ : Mk X.K (He.ga X.K c) fI) (Fm : FnM X lev fI n φ) (hr : Room (lev + 1) X.A) (tk : Takes X W) (hg : Gl X c) (hm : X.mg c = some (.ref (He.ga X.K c)))
    (hd : (c == ("__debug__" : Str)) = false) (hn : es.all noStar = true) (hms : es = [] → ms = mNil) (ha : PA X es (tDs X.K W ms)) : PE X (.Call (.Name c p) es [] pos) (tE X.K W (mMake b c n φ ms)) :=
  pm_global hg (.inl hm) hd (.inl (PySem.W.keeps_K Mk_.kp)) hn hms ha fun pins s σ H Q us vs ds M F' io I r a rl p => run_mk Mk_ Fm hr tk I r a rl p
end
end Pc

set_option Elab.async false
set_option linter.all false
set_option maxRecDepth 100000
set_option maxHeartbeats 1000000
set_option autoImplicit false
/-! Pc10: statements -/
namespace Pc
open PySem PySem.Spec PyProof.Rows L2

inductive RS where
  | nx (env : Sl) (M : Mem) | bk (env : Sl) (M : Mem) | ct (env : Sl) (M : Mem)
  | rt (rv : RV) (M : Mem)
  | exc (c : Str) (ns : List Str) (ds : List D) (env : Sl) (M : Mem)
  | stuck
abbrev MS := Sl → Mem → RS
def R.toS {α : Type} (env : Sl) : R α → (α → Mem → RS) → RS
  | .ok a M, f => f a M
  | .exc c ns ds M, _ => .exc c ns ds env M
  | .stuck, _ => .stuck
def RS.seq : RS → MS → RS
  | .nx env M, f => f env M
  | .bk env M, _ => .bk env M
  | .ct env M, _ => .ct env M
  | .rt rv M, _ => .rt rv M
  | .exc c ns ds env M, _ => .exc c ns ds env M
  | .stuck, _ => .stuck
def PostS (K : PySem.W.Frag) (W : WX) (F : Hp) (io : List Addr) (H : Hp) (D : Ends) : RS → Prop
  | .nx env M => ∀ F' io' H' σ', HA K F' io' H' M → Ex F io H F' io' H' → ER K F' io' σ' env → D.nx σ' H'
  | .bk env M => ∀ F' io' H' σ', HA K F' io' H' M → Ex F io H F' io' H' → ER K F' io' σ' env → D.bk σ' H'
  | .ct env M => ∀ F' io' H' σ', HA K F' io' H' M → Ex F io H F' io' H' → ER K F' io' σ' env → D.ct σ' H'
  | .rt rv M => ∀ F' io' H' v, HA K F' io' H' M → Ex F io H F' io' H' → RR K F' io' H H' rv v → D.rt v H'
  | .exc c ns ds env M => ∀ F' io' H' dd σ', HA K F' io' H' M → Ex F io H F' io' H' → ER K F' io' σ' env → ExcAt K F' io' H H' ns ds dd → W (.ref (He.ga K c)) (some dd) σ' H'
  | .stuck => False
def tS (K : PySem.W.Frag) (W : WX) (m : MS) : TS := fun D σ H => ∃ F io env M, HA K F io H M ∧ ER K F io σ env ∧ PostS K W F io H D (m env M)

section
variable {K : PySem.W.Frag} {W : WX} {F H F1 H1 : Hp} {io io1 : List Addr} {σ : St} {M : Mem} {D : Ends}
theorem PostS.from_ {r : RS} (x : Ex F io H F1 io1 H1) (h : PostS K W F io H D r) : PostS K W F1 io1 H1 D r := by
  cases r with
  | nx env M' => exact fun F' io' H' σ' a b c => h F' io' H' σ' a (x.trans b) c
  | bk env M' => exact fun F' io' H' σ' a b c => h F' io' H' σ' a (x.trans b) c
  | ct env M' => exact fun F' io' H' σ' a b c => h F' io' H' σ' a (x.trans b) c
  | rt rv M' => exact fun F' io' H' v a b c => h F' io' H' v a (x.trans b) (c.from_ x)
  | exc c ns ds env M' => exact fun F' io' H' dd σ' a b c e => h F' io' H' dd σ' a (x.trans b) c (e.from_ x)
  | stuck => exact h
theorem PostS.mono {D' : Ends} {r : RS} (h : PostS K W F io H D r) (h1 : ∀ σ H, D.nx σ H → D'.nx σ H) (h2 : ∀ v H, D.rt v H → D'.rt v H) (h3 : ∀ σ H, D.bk σ H → D'.bk σ H) (h4 : ∀ σ H, D.ct σ H → D'.ct σ H) : PostS K W F io H D' r := by
  cases r with
  | nx env M' => exact fun F' io' H' σ' a b c => h1 _ _ (h F' io' H' σ' a b c)
  | bk env M' => exact fun F' io' H' σ' a b c => h3 _ _ (h F' io' H' σ' a b c)
  | ct env M' => exact fun F' io' H' σ' a b c => h4 _ _ (h F' io' H' σ' a b c)
  | rt rv M' => exact fun F' io' H' v a b c => h2 _ _ (h F' io' H' v a b c)
  | exc c ns ds env M' => exact h
  | stuck => exact h
/-- a value read by a statement, then the rest -/
theorem tS_tD {m : MD} {k : Sl → Pc.D → Mem → RS} (h : tS K W (fun env M => (m env M).toS env (k env)) D σ H) :
    tD K W m σ H fun x H1 => ∃ d M1 F1 io1 env, HA K F1 io1 H1 M1 ∧ ER K F1 io1 σ env ∧ Rel K F1 io1 d x ∧ PostS K W F1 io1 H1 D (k env d M1) := by
  obtain ⟨F, io, env, M, ha, er, p⟩ := h
  refine ⟨F, io, env, M, ha, er, ?_⟩
  dsimp only at p
  cases q : m env M with
  | stuck => rw [q] at p; exact p
  | exc c ns ds M' => rw [q] at p; exact fun F' io' H' dd a b c => p F' io' H' dd σ a b (er.mono b.sub b.ids) c
  | ok d M1 =>
    rw [q] at p
    intro F1 io1 H1 x a b c
    exact ⟨d, M1, F1, io1, env, a, er.mono b.sub b.ids, c, PostS.from_ b p⟩
theorem tS_tDs {m : MDs} {k : Sl → List Pc.D → Mem → RS} (h : tS K W (fun env M => (m env M).toS env (k env)) D σ H) :
    tDs K W m σ H fun xs H1 => ∃ ds M1 F1 io1 env, HA K F1 io1 H1 M1 ∧ ER K F1 io1 σ env ∧ RelL K F1 io1 ds xs ∧ PostS K W F1 io1 H1 D (k env ds M1) := by
  obtain ⟨F, io, env, M, ha, er, p⟩ := h
  refine ⟨F, io, env, M, ha, er, ?_⟩
  dsimp only at p
  cases q : m env M with
  | stuck => rw [q] at p; exact p
  | exc c ns ds M' => rw [q] at p; exact fun F' io' H' dd a b c => p F' io' H' dd σ a b (er.mono b.sub b.ids) c
  | ok d M1 =>
    rw [q] at p
    intro F1 io1 H1 x a b c
    exact ⟨d, M1, F1, io1, env, a, er.mono b.sub b.ids, c, PostS.from_ b p⟩
theorem tS_tT {m : MT} {k : Sl → Bool → Mem → RS} (h : tS K W (fun env M => (m env M).toS env (k env)) D σ H) :
    tT K W m σ H fun b H1 => ∃ M1 F1 io1 env, HA K F1 io1 H1 M1 ∧ ER K F1 io1 σ env ∧ PostS K W F1 io1 H1 D (k env b M1) := by
  obtain ⟨F, io, env, M, ha, er, p⟩ := h
  refine ⟨F, io, env, M, ha, er, ?_⟩
  dsimp only at p
  cases q : m env M with
  | stuck => rw [q] at p; exact p
  | exc c ns ds M' => rw [q] at p; exact fun F' io' H' dd a b c => p F' io' H' dd σ a b (er.mono b.sub b.ids) c
  | ok d M1 =>
    rw [q] at p
    intro F1 io1 H1 a b
    exact ⟨M1, F1, io1, env, a, er.mono b.sub b.ids, PostS.from_ b p⟩
theorem ER.put {env : Sl} {i : Nat} {d : Pc.D} {v : V} (h : ER K F io σ env) (r : Rel K F io d v) : ER K F io (σ.set i (some v)) (env.set i (some d)) := by
  refine ⟨by rw [List.length_set, List.length_set, h.1], fun j e q => ?_⟩
  by_cases hj : i = j
  · subst hj
    have hl : i < env.length := by
      have := (List.getElem?_eq_some_iff.mp q).1
      rwa [List.length_set] at this
    rw [List.getElem?_set_self hl] at q
    cases q
    exact ⟨v, by rw [List.getElem?_set_self (by rw [← h.1]; exact hl)], r⟩
  · rw [List.getElem?_set_ne hj] at q
    rw [List.getElem?_set_ne hj]
    exact h.2 j e q
end

section
variable {K : PySem.W.Frag} {W : WX} {σ : St} {H : Hp}
theorem PostD.mono' {F : Hp} {io : List Addr} {Q Q' : VK} {r : R Pc.D} (h : PostD K W F io H σ Q r) (hq : ∀ v H', Q v H' → Q' v H') : PostD K W F io H σ Q' r := by
  cases r with
  | ok rv M' => exact fun F' io' H' v a b c => hq _ _ (h F' io' H' v a b c)
  | exc c ns ds M' => exact h
  | stuck => exact h
theorem PE_t_mono {m : MD} {Q Q' : VK} (h : tD K W m σ H Q) (hq : ∀ v H', Q v H' → Q' v H') : tD K W m σ H Q' := by
  obtain ⟨F, io, env, M, ha, er, p⟩ := h
  exact ⟨F, io, env, M, ha, er, p.mono' hq⟩
theorem tT_mono {m : MT} {Q Q' : Bool → Hp → Prop} (h : tT K W m σ H Q) (hq : ∀ v H', Q v H' → Q' v H') : tT K W m σ H Q' := by
  obtain ⟨F, io, env, M, ha, er, p⟩ := h
  refine ⟨F, io, env, M, ha, er, ?_⟩
  cases r : m env M with
  | ok rv M' => rw [r] at p; exact fun F' io' H' a b => hq _ _ (p F' io' H' a b)
  | exc c ns ds M' => rw [r] at p; exact p
  | stuck => rw [r] at p; exact p
theorem tDs_mono {m : MDs} {Q Q' : List V → Hp → Prop} (h : tDs K W m σ H Q) (hq : ∀ v H', Q v H' → Q' v H') : tDs K W m σ H Q' := by
  obtain ⟨F, io, env, M, ha, er, p⟩ := h
  exact ⟨F, io, env, M, ha, er, p.mono hq⟩
end
/-! ### a fresh value is numbered, or frozen -/
def alD (mu : Bool) : R RV → R Pc.D
  | .ok (.val d) M => .ok d M
  | .ok (.own o) M => if mu then .ok (.ref M.length) (M ++ [o]) else .ok o.d M
  | .exc c ns ds M => .exc c ns ds M
  | .stuck => .stuck
def mA (mu : Bool) (m : ME) : MD := fun env M => alD mu (m env M)
theorem mA_false (m : ME) : mA false m = mD m := by
  funext env M
  unfold mA mD
  cases m env M with
  | ok rv M' => cases rv <;> rfl
  | exc c ns ds M' => rfl
  | stuck => rfl
section
variable {X : Cx} {W : WX} {e : Expr} {es : List Expr}
theorem tE_of_tA {K : PySem.W.Frag} {m : ME} (mu : Bool) {σ : St} {H : Hp} {Q : VK} (h : tD K W (mA mu m) σ H Q) : tE K W m σ H Q := by
  cases mu with
  | false => rw [mA_false] at h; exact tE_of_tD h
  | true =>
    obtain ⟨F, io, env, M, ha, er, p⟩ := h
    refine ⟨F, io, env, M, ha, er, ?_⟩
    unfold mA at p
    cases r : m env M with
    | stuck => rw [r] at p; exact p
    | exc c ns ds M' => rw [r] at p; exact p
    | ok rv M' =>
      rw [r] at p
      intro F' io' H' v a b c
      cases rv with
      | val d => exact p F' io' H' v a b c
      | own o =>
        obtain ⟨l, e, n, nf, ni, mr⟩ := c
        subst e
        exact p F' (io' ++ [l]) H' _ (a.alloc nf ni mr) (Ex.alloc b n) ⟨l, rfl, by rw [← a.len, List.getElem?_append_right (Nat.le_refl _), Nat.sub_self]; rfl⟩
theorem pe_a {m : ME} (mu : Bool) (h : PE X e (tE X.K W m)) : PE X e (tD X.K W (mA mu m)) := PE.imp' h fun _ _ _ => tE_of_tA mu
/-- arguments with marks: which of them are numbered -/
def mConsA (mu : Bool) (m : ME) (ms : MDs) : MDs := fun env M => (mA mu m env M).bind fun d M1 => (ms env M1).bind fun ds M2 => .ok (d :: ds) M2
theorem am_consA {mu : Bool} {m : ME} {ms : MDs} (he : PE X e (tE X.K W m)) (hr : PA X es (tDs X.K W ms)) (hs : starEach (e :: es) X.env = (false, eval e X.env) :: starEach es X.env) : PA X (e :: es) (tDs X.K W (mConsA mu m ms)) :=
  PA.imp' (pa_cons (pe_a mu he) hr hs) fun σ H Q h =>
    tDs_bind (k := fun d env M1 => (ms env M1).bind fun ds M2 => .ok (d :: ds) M2) h fun d M1 F1 io1 H1 x env a b c p =>
      postDs_cons (xs := [d]) (vs := [x]) a b ⟨x, [], rfl, c, rfl⟩ p
end

/-! ### blocks, small statements -/
def mNext : MS := fun env M => .nx env M
def mBreak : MS := fun env M => .bk env M
def mCont : MS := fun env M => .ct env M
def mSeq (m1 m2 : MS) : MS := fun env M => (m1 env M).seq m2
def mStS : MS := fun _ _ => .stuck
def mDrop (m : ME) : MS := fun env M => (mD m env M).toS env fun _ M1 => .nx env M1
def mRet (m : ME) : MS := fun env M => (m env M).toS env fun rv M1 => .rt rv M1
def mRetN : MS := fun _ M => .rt (.val .non) M
def mIfS (t : MT) (m1 m2 : MS) : MS := fun env M => (t env M).toS env fun b M1 => if b then m1 env M1 else m2 env M1
def mSet (mu : Bool) (i : Nat) (m : ME) : MS := fun env M => (mA mu m env M).toS env fun d M1 => .nx (env.set i (some d)) M1
section
variable {X : Cx} {W : WX} {st : Stmt} {sts : List Stmt} {e : Expr} {pos : Pos}
theorem sm_stuck {t : Stmt} : PS X t (tS X.K W mStS) := ⟨fun pins s σ H D I h => by obtain ⟨F, io, env, M, ha, er, p⟩ := h; exact p.elim⟩
theorem sms_stuck {t : List Stmt} : PSs X t (tS X.K W mStS) := ⟨fun pins s σ H D I h => by obtain ⟨F, io, env, M, ha, er, p⟩ := h; exact p.elim⟩
theorem tS_next {σ : St} {H : Hp} {D : Ends} (h : tS X.K W mNext D σ H) : D.nx σ H := by
  obtain ⟨F, io, env, M, ha, er, p⟩ := h
  exact p F io H σ ha .refl er
theorem sms_nil : PSs X [] (tS X.K W mNext) := PSs.imp' pss_nil fun D σ H h => tS_next h
theorem sm_pass : PS X (.Pass pos) (tS X.K W mNext) := PS.imp' ps_pass fun D σ H h => tS_next h
theorem sm_doc {x j p} : PS X (.Expr (.Constant (.str x) j p) pos) (tS X.K W mNext) := PS.imp' ps_doc fun D σ H h => tS_next h
theorem sm_break : PS X (.Break pos) (tS X.K W mBreak) := PS.imp' ps_break fun D σ H h => by
  obtain ⟨F, io, env, M, ha, er, p⟩ := h
  exact p F io H σ ha .refl er
theorem sm_cont : PS X (.Continue pos) (tS X.K W mCont) := PS.imp' ps_continue fun D σ H h => by
  obtain ⟨F, io, env, M, ha, er, p⟩ := h
  exact p F io H σ ha .refl er
theorem sms_cons {m1 m2 : MS} (h1 : PS X st (tS X.K W m1)) (h2 : PSs X sts (tS X.K W m2)) : PSs X (st :: sts) (tS X.K W (mSeq m1 m2)) := PSs.imp' (pss_cons h1 h2) fun D σ H h => by
  obtain ⟨F, io, env, M, ha, er, p⟩ := h
  refine ⟨F, io, env, M, ha, er, ?_⟩
  unfold mSeq at p
  cases q : m1 env M with
  | nx env1 M1 =>
    rw [q] at p
    exact fun F' io' H' σ' a b c => ⟨F', io', env1, M1, a, c, PostS.from_ b p⟩
  | bk env1 M1 => rw [q] at p; exact p
  | ct env1 M1 => rw [q] at p; exact p
  | rt rv M1 => rw [q] at p; exact p
  | exc c ns ds env1 M1 => rw [q] at p; exact p
  | stuck => rw [q] at p; exact p
theorem sm_ret {m : ME} (h : PE X e (tE X.K W m)) : PS X (.Return (some e) pos) (tS X.K W (mRet m)) := PS.imp' (ps_ret h) fun D σ H h => by
  obtain ⟨F, io, env, M, ha, er, p⟩ := h
  refine ⟨F, io, env, M, ha, er, ?_⟩
  unfold mRet at p
  cases q : m env M with
  | stuck => rw [q] at p; exact p
  | exc c ns ds M' => rw [q] at p; exact fun F' io' H' dd a b c => p F' io' H' dd σ a b (er.mono b.sub b.ids) c
  | ok rv M1 => rw [q] at p; exact p
theorem sm_retN : PS X (.Return none pos) (tS X.K W mRetN) := PS.imp' ps_retN fun D σ H h => by
  obtain ⟨F, io, env, M, ha, er, p⟩ := h
  exact p F io H .non ha .refl rfl
theorem sm_expr {m : ME} (h : PE X e (tE X.K W m)) (hs : swapsWith e none pos.line X.env = pure false) : PS X (.Expr e pos) (tS X.K W (mDrop m)) := PS.imp' (ps_expr (pe_d h) hs) fun D σ H h => by
  refine (PE_t_mono (tS_tD (k := fun env _ M1 => .nx env M1) h)) fun x H1 ⟨d, M1, F1, io1, env, a, b, c, p⟩ => p F1 io1 H1 σ a .refl b
theorem sm_if {c : Expr} {a b : List Stmt} {t : MT} {m1 m2 : MS} (hc : PT X c (tT X.K W t)) (h1 : PSs X a (tS X.K W m1)) (h2 : PSs X b (tS X.K W m2)) : PS X (.If c a b pos) (tS X.K W (mIfS t m1 m2)) := PS.imp' (ps_if hc h1 h2) fun D σ H h => by
  refine (tT_mono (tS_tT (k := fun env b M1 => if b then m1 env M1 else m2 env M1) h)) fun b H1 ⟨M1, F1, io1, env, a, c, p⟩ => ?_
  cases b with
  | true => exact ⟨F1, io1, env, M1, a, c, p⟩
  | false => exact ⟨F1, io1, env, M1, a, c, p⟩
theorem sm_set {mu : Bool} {i : Nat} {x : Str} {m : ME} {pos' : Pos} (hN : X.N.Nodup) (hi : X.N[i]? = some x) (hx : Loc X.env.scope x) (hf : X.fn x = true ∨ X.env.scope.names.lookup x = some .local) (h : PE X e (tE X.K W m)) (hs : swapsWith e (some (.Name x pos')) pos.line X.env = pure false) :
    PS X (.Assign [.Name x pos'] e pos) (tS X.K W (mSet mu i m)) := PS.imp' (ps_set hN hi hx (pe_a mu h) hs hf) fun D σ H h => by
  refine (PE_t_mono (tS_tD (k := fun env d M1 => .nx (env.set i (some d)) M1) h)) fun x H1 ⟨d, M1, F1, io1, env, a, b, c, p⟩ => p F1 io1 H1 _ a .refl (b.put c)
end
end Pc

set_option Elab.async false
set_option linter.all false
set_option maxRecDepth 100000
set_option maxHeartbeats 1000000
set_option autoImplicit false
/-! Pc11: targets, what is walked, loops, list comprehensions -/
namespace Pc
open PySem PySem.Spec PyProof.Rows L2

/-! ### targets: the slots and what comes into them -/
abbrev MG := D → Option (List (Nat × D))
abbrev MGs := List D → Option (List (Nat × D))
def gN (i : Nat) : MG := fun d => some [(i, d)]
def gT (n : Nat) (gs : MGs) : MG := fun d => match seqT d with
  | some xs => if xs.length = n then gs xs else none
  | none => none
def gsNil : MGs := fun xs => match xs with
  | [] => some []
  | _ => none
def gsCons (g : MG) (gs : MGs) : MGs := fun xs => match xs with
  | x :: r => match g x, gs r with
    | some a, some b => some (a ++ b)
    | _, _ => none
  | [] => none
def putE (env : Sl) (bs : List (Nat × D)) : Sl := bs.foldl (fun e b => e.set b.1 (some b.2)) env
def putV (σ : St) (us : List (Nat × V)) : St := us.foldl (fun e b => e.set b.1 (some b.2)) σ
def RelB (K : PySem.W.Frag) (F : Hp) (io : List Addr) : List (Nat × D) → List (Nat × V) → Prop
  | [], us => us = []
  | (i, d) :: r, us => ∃ v t, us = (i, v) :: t ∧ Rel K F io d v ∧ RelB K F io r t
def tG (K : PySem.W.Frag) (g : MG) : TG := fun v σ H Q => ∃ F io M d bs, HA K F io H M ∧ Rel K F io d v ∧ g d = some bs ∧ ∀ us, RelB K F io bs us → Q (putV σ us) H
def tGs (K : PySem.W.Frag) (g : MGs) : TGs := fun vs σ H Q => ∃ F io M ds bs, HA K F io H M ∧ RelL K F io ds vs ∧ g ds = some bs ∧ ∀ us, RelB K F io bs us → Q (putV σ us) H
section
variable {K : PySem.W.Frag} {F F' : Hp} {io io' : List Addr} {σ : St} {env : Sl}
theorem RelB.append : ∀ {a b : List (Nat × D)} {us : List (Nat × V)}, RelB K F io (a ++ b) us → ∃ u1 u2, us = u1 ++ u2 ∧ RelB K F io a u1 ∧ RelB K F io b u2
  | [], b, us, h => ⟨[], us, rfl, rfl, h⟩
  | (i, d) :: r, b, us, h => by
    obtain ⟨v, t, e, h1, h2⟩ := (show ∃ v t, us = (i, v) :: t ∧ Rel K F io d v ∧ RelB K F io (r ++ b) t from h)
    obtain ⟨u1, u2, e2, h3, h4⟩ := RelB.append h2
    exact ⟨(i, v) :: u1, u2, by rw [e, e2]; rfl, ⟨v, u1, rfl, h1, h3⟩, h4⟩
theorem RelB.app : ∀ {a b : List (Nat × D)} {u1 u2 : List (Nat × V)}, RelB K F io a u1 → RelB K F io b u2 → RelB K F io (a ++ b) (u1 ++ u2)
  | [], b, u1, u2, h1, h2 => by rw [show u1 = [] from h1]; exact h2
  | (i, d) :: r, b, u1, u2, h, h2 => by
    obtain ⟨v, t, e, h1, h3⟩ := (show ∃ v t, u1 = (i, v) :: t ∧ Rel K F io d v ∧ RelB K F io r t from h)
    subst e
    exact ⟨v, t ++ u2, rfl, h1, RelB.app h3 h2⟩
theorem ER.puts : ∀ {bs : List (Nat × D)} {us : List (Nat × V)} {σ : St} {env : Sl}, ER K F io σ env → RelB K F io bs us → ER K F io (putV σ us) (putE env bs)
  | [], us, σ, env, h, r => by rw [show us = [] from r]; exact h
  | (i, d) :: bs, us, σ, env, h, r => by
    obtain ⟨v, t, e, h1, h3⟩ := (show ∃ v t, us = (i, v) :: t ∧ Rel K F io d v ∧ RelB K F io bs t from r)
    subst e
    show ER K F io (putV (σ.set i (some v)) t) (putE (env.set i (some d)) bs)
    exact ER.puts (h.put h1) h3
theorem putV_app (σ : St) (a b : List (Nat × V)) : putV σ (a ++ b) = putV (putV σ a) b := by unfold putV; rw [List.foldl_append]
theorem wipe_put {v : V} : ∀ {vs : List Nat} {i : Nat} (σ : St), i ∈ vs → wipe (σ.set i (some v)) vs = wipe σ vs
  | j :: vs, i, σ, h => by
    unfold wipe
    by_cases hm : i ∈ vs
    · rw [wipe_put σ hm]
    · have hj : i = j := by
        rcases List.mem_cons.mp h with e | h
        · exact e
        · exact absurd h hm
      subst hj
      refine List.ext_getElem? fun k => ?_
      by_cases hk : i = k
      · subst hk
        rw [List.getElem?_set, List.getElem?_set, wipe_length, wipe_length, List.length_set, if_pos rfl, if_pos rfl]
      · rw [List.getElem?_set_ne hk, List.getElem?_set_ne hk]
        by_cases hk2 : k ∈ vs
        · rw [wipe_in hk2, wipe_in hk2, List.length_set]
        · rw [wipe_out hk2, wipe_out hk2, List.getElem?_set_ne hk]
where wipe_in : ∀ {σ : St} {k : Nat} {vs : List Nat}, k ∈ vs → (wipe σ vs)[k]? = if k < σ.length then some none else none
  | σ, k, j :: vs, h => by
    unfold wipe
    by_cases hj : j = k
    · subst hj
      rw [List.getElem?_set, if_pos rfl, wipe_length]
    · rw [List.getElem?_set_ne hj]
      rcases List.mem_cons.mp h with e | h
      · exact absurd e.symm hj
      · exact wipe_in h
theorem wipe_putV {vs : List Nat} : ∀ {us : List (Nat × V)} (σ : St), (∀ p ∈ us, p.1 ∈ vs) → wipe (putV σ us) vs = wipe σ vs
  | [], σ, h => rfl
  | (i, v) :: us, σ, h => by
    show wipe (putV (σ.set i (some v)) us) vs = _
    rw [wipe_putV _ fun p hp => h p (List.mem_cons_of_mem _ hp), wipe_put σ (h (i, v) List.mem_cons_self)]
theorem RelB.ix : ∀ {bs : List (Nat × D)} {us : List (Nat × V)}, RelB K F io bs us → us.map (·.1) = bs.map (·.1)
  | [], us, h => by rw [show us = [] from h]; rfl
  | (i, d) :: bs, us, r => by
    obtain ⟨v, t, e, h1, h3⟩ := (show ∃ v t, us = (i, v) :: t ∧ Rel K F io d v ∧ RelB K F io bs t from r)
    subst e
    rw [List.map_cons, List.map_cons, h3.ix]
def wipeS (env : Sl) : List Nat → Sl
  | [] => env
  | v :: vs => (wipeS env vs).set v none
theorem ER.wipe (h : ER K F io σ env) : ∀ vs : List Nat, ER K F io (wipe σ vs) (wipeS env vs)
  | [] => h
  | v :: vs => by
    have ih := ER.wipe h vs
    refine ⟨by unfold wipeS L2.wipe; rw [List.length_set, List.length_set, ih.1], fun i d e => ?_⟩
    unfold wipeS at e
    unfold L2.wipe
    by_cases hi : v = i
    · subst hi
      by_cases hv : v < (wipeS env vs).length
      · rw [List.getElem?_set_self hv] at e; cases e
      · rw [List.getElem?_eq_none (by simpa using hv)] at e; cases e
    · rw [List.getElem?_set_ne hi] at e ⊢
      exact ih.2 i d e
end
section
variable {X : Cx} {pos : Pos} {es : List Expr} {e : Expr}
theorem gm_name {i : Nat} {x : Str} (hN : X.N.Nodup) (hi : X.N[i]? = some x) (hx : Loc X.env.scope x) (hf : X.fn x = true ∨ X.env.scope.names.lookup x = some .local) : PG X (.Name x pos) (tG X.K (gN i)) :=
  ⟨fun pins s σ H v u Q I r ⟨F, io, M, d, bs, a, rd, e, q⟩ => by
    cases e
    exact (pg_name hN hi hx hf).run pins s σ H v u Q I r (q [(i, v)] ⟨v, [], rfl, rd, rfl⟩)⟩
theorem gsm_nil : PGs X [] (tGs X.K gsNil) :=
  ⟨fun pins s σ H vs us Q I r ⟨F, io, M, ds, bs, a, rd, e, q⟩ => by
    unfold gsNil at e
    split at e
    · cases e
      have e0 : vs = [] := rd
      exact pgs_nil.run pins s σ H vs us Q I r ⟨e0, q [] rfl⟩
    · cases e⟩
theorem each_cons {e : Expr} (h : noStar e = true) (es : List Expr) (env : PySem.Env) : assignEach (e :: es) env = (false, assign e env) :: assignEach es env := by
  cases e <;> first | rfl | cases h
theorem each_len {es : List Expr} (h : es.all noStar = true) (env : PySem.Env) : (assignEach es env).length = es.length ∧ (assignEach es env).findIdx? (·.1) = none := by
  induction es with
  | nil => exact ⟨rfl, rfl⟩
  | cons e es ih =>
    rw [List.all_cons, Bool.and_eq_true] at h
    rw [each_cons h.1]
    obtain ⟨h1, h2⟩ := ih h.2
    exact ⟨by rw [List.length_cons, List.length_cons, h1], by rw [List.findIdx?_cons]; simp [h2]⟩
theorem gsm_cons {g : MG} {gs : MGs} (h1 : PG X e (tG X.K g)) (h2 : PGs X es (tGs X.K gs)) (hs : noStar e = true) : PGs X (e :: es) (tGs X.K (gsCons g gs)) :=
  ⟨fun pins s σ H vs us Q I r ⟨F, io, M, ds, bs, a, rd, e, q⟩ => by
    unfold gsCons at e
    split at e
    · rename_i x xs
      split at e
      · rename_i b1 b2 e1 e2
        cases e
        obtain ⟨v, vr, ev, r1, r2⟩ := (show ∃ v r, vs = v :: r ∧ Rel X.K F io x v ∧ RelL X.K F io xs r from rd)
        subst ev
        refine (pgs_cons h1 h2 (by rw [each_cons hs]; rfl)).run pins s σ H _ us Q I r ⟨v, vr, rfl, F, io, M, x, b1, a, r1, e1, fun u1 q1 => ⟨F, io, M, xs, b2, a, r2, e2, fun u2 q2 => ?_⟩⟩
        rw [← putV_app]
        exact q _ (q1.app q2)
      · cases e
    · cases e⟩
theorem gm_tup {k n : Nat} {gs : MGs} (hc : X.calm = true) (h : PGs X es (tGs X.K gs)) (hs : es.all noStar = true) (hn : es.length = n) : PG X (.Tuple es k pos) (tG X.K (gT n gs)) :=
  ⟨fun pins s σ H v u Q I r ⟨F, io, M, d, bs, a, rd, e, q⟩ => by
    unfold gT at e
    split at e
    · rename_i xs hx
      split at e
      · rename_i hl
        obtain ⟨p, vs, rfl, hq, rl⟩ := a.seqT rd hx
        refine (pg_tup hc h (by rw [(each_len hs X.env).1, hn]) (each_len hs X.env).2).run pins s σ H _ u Q I r ⟨p, vs, rfl, hq, by rw [← rl.length, hl], F, io, M, xs, bs, a, rl, e, q⟩
      · cases e
    · cases e⟩
end

/-! ### what is walked -/
abbrev GI := Mem → Nat → Option (Option D)
abbrev MI := Sl → Mem → R (Nat × GI)
def ItOk (K : PySem.W.Frag) (F : Hp) (io : List Addr) (J : It) (g : GI) : Prop :=
  ∀ F1 io1 H1 M1, HA K F1 io1 H1 M1 → Same F F1 → (∀ (i : Nat) (a : Addr), io[i]? = some a → io1[i]? = some a) → ∀ k,
    (g M1 k = some none → J.stop k H1) ∧ ∀ d, g M1 k = some (some d) → J.go k H1 ∧ ∀ x H', J.yld k H1 x H' → ∃ F2, HA K F2 io1 H' M1 ∧ Ex F1 io1 H1 F2 io1 H' ∧ Rel K F2 io1 d x
def PostI (K : PySem.W.Frag) (W : WX) (F : Hp) (io : List Addr) (H : Hp) (σ : St) (Q : It → Hp → Prop) : R (Nat × GI) → Prop
  | .ok g M' => ∀ F' io' H' J, HA K F' io' H' M' → Ex F io H F' io' H' → ItOk K F' io' J g.2 → Q J H'
  | .exc c ns ds M' => ∀ F' io' H' dd, HA K F' io' H' M' → Ex F io H F' io' H' → ExcAt K F' io' H H' ns ds dd → W (.ref (He.ga K c)) (some dd) σ H'
  | .stuck => False
def tI (K : PySem.W.Frag) (W : WX) (m : MI) : TI := fun σ H Q => ∃ F io env M, HA K F io H M ∧ ER K F io σ env ∧ PostI K W F io H σ Q (m env M)
theorem PostI.from_ {K : PySem.W.Frag} {W : WX} {F H F1 H1 : Hp} {io io1 : List Addr} {σ : St} {Q : It → Hp → Prop} {r : R (Nat × GI)} (x : Ex F io H F1 io1 H1) (h : PostI K W F io H σ Q r) : PostI K W F1 io1 H1 σ Q r := by
  cases r with
  | ok rv M' => exact fun F' io' H' v a b c => h F' io' H' v a (x.trans b) c
  | exc c ns ds M' => exact fun F' io' H' dd a b c => h F' io' H' dd a (x.trans b) (c.from_ x)
  | stuck => exact h
theorem PI.imp' {X : Cx} {tg iter : Expr} {t t' : TI} (h : PI X tg iter t) (i : ∀ σ H Q, t' σ H Q → t σ H Q) : PI X tg iter t' := ⟨fun pins s σ H Q I hw => h.run pins s σ H Q I (i σ H Q hw)⟩
section
variable {K : PySem.W.Frag} {W : WX} {σ : St} {H : Hp}
theorem tI_tD {m : MD} {k : D → Mem → R (Nat × GI)} {Q : It → Hp → Prop} (h : tI K W (fun env M => (m env M).bind k) σ H Q) :
    tD K W m σ H fun x H1 => ∃ d M1 F1 io1, HA K F1 io1 H1 M1 ∧ Rel K F1 io1 d x ∧ PostI K W F1 io1 H1 σ Q (k d M1) := by
  obtain ⟨F, io, env, M, ha, er, p⟩ := h
  refine ⟨F, io, env, M, ha, er, ?_⟩
  dsimp only at p
  cases q : m env M with
  | stuck => rw [q] at p; exact p
  | exc c ns ds M' => rw [q] at p; exact p
  | ok d M1 =>
    rw [q] at p
    intro F1 io1 H1 x a b c
    exact ⟨d, M1, F1, io1, a, c, PostI.from_ b p⟩
theorem tI_tDs {m : MDs} {k : List D → Mem → R (Nat × GI)} {Q : It → Hp → Prop} (h : tI K W (fun env M => (m env M).bind k) σ H Q) :
    tDs K W m σ H fun xs H1 => ∃ ds M1 F1 io1, HA K F1 io1 H1 M1 ∧ RelL K F1 io1 ds xs ∧ PostI K W F1 io1 H1 σ Q (k ds M1) := by
  obtain ⟨F, io, env, M, ha, er, p⟩ := h
  refine ⟨F, io, env, M, ha, er, ?_⟩
  dsimp only at p
  cases q : m env M with
  | stuck => rw [q] at p; exact p
  | exc c ns ds M' => rw [q] at p; exact p
  | ok d M1 =>
    rw [q] at p
    intro F1 io1 H1 x a b c
    exact ⟨d, M1, F1, io1, a, c, PostI.from_ b p⟩
end
/-- a list or a tuple -/
def gSeq (d : D) : GI := fun M k => match seqA M d with
  | some xs => some xs[k]?
  | none => none
def mISeq (m : ME) : MI := fun env M => (mD m env M).bind fun d M1 => match seqA M1 d with
  | some xs => .ok (xs.length, gSeq d) M1
  | none => .stuck
def gRng (lo : Int) (n : Nat) : GI := fun _ k => some (if k < n then some (.int (lo + k)) else none)
def okI (i : Int) : Bool := decide (-(2 ^ 62) ≤ i) && decide (i < 2 ^ 62)
def rng1S (ds : List D) (M : Mem) : R (Nat × GI) := match ds with
  | [.int j] => if okI j then .ok (j.toNat, gRng 0 j.toNat) M else .stuck
  | _ => .stuck
def rng2S (ds : List D) (M : Mem) : R (Nat × GI) := match ds with
  | [.int i, .int j] => if okI i && okI j then .ok ((j - i).toNat, gRng i (j - i).toNat) M else .stuck
  | _ => .stuck
def mIRng1 (ms : MDs) : MI := fun env M => (ms env M).bind rng1S
def mIRng2 (ms : MDs) : MI := fun env M => (ms env M).bind rng2S
theorem okI_iff {i : Int} (h : okI i = true) : -(2 ^ 62) ≤ i ∧ i < 2 ^ 62 := by
  unfold okI at h
  rw [Bool.and_eq_true] at h
  exact ⟨of_decide_eq_true h.1, of_decide_eq_true h.2⟩
section
variable {X : Cx} {W : WX} {tg e : Expr} {es : List Expr}
theorem sqL_inj {K : PySem.W.Frag} {F H : Hp} {io : List Addr} {M : Mem} {d : D} {xs : List D} (ha : HA K F io H M) {a : Addr} (r : Rel K F io d (.ref a)) (e : seqL M d = some xs) : ∃ vs, H a = some (.lst vs) ∧ RelL K F io xs vs := by
  obtain ⟨b, vs, e1, e2, e3⟩ := ha.lst r e
  cases e1
  exact ⟨vs, e2, e3⟩
/-- what a tracked place or the kept text says of a list -/
theorem seq_it {K : PySem.W.Frag} {F H : Hp} {io : List Addr} {M : Mem} {d : D} {a : Addr} (ha : HA K F io H M) (r : Rel K F io d (.ref a)) {xs : List D} (e : seqL M d = some xs) : ItOk K F io (Itl K a) (gSeq d) := by
  intro F1 io1 H1 M1 h1 hs hi k
  have r1 := Rel.mono hs hi d _ r
  have nt : ∀ M', seqA M' d = seqL M' d := fun M' => by cases d <;> first | rfl | cases e
  refine ⟨fun q => ?_, fun y q => ?_⟩
  · unfold gSeq at q
    rw [nt] at q
    cases z : seqL M1 d with
    | none => rw [z] at q; cases q
    | some ys =>
      rw [z] at q
      obtain ⟨vs, e1, e2⟩ := sqL_inj h1 r1 z
      refine ⟨vs, .of e1, ?_⟩
      have q' : ys[k]? = none := Option.some.inj q
      rw [← e2.length]
      exact List.getElem?_eq_none_iff.mp q'
  · unfold gSeq at q
    rw [nt] at q
    cases z : seqL M1 d with
    | none => rw [z] at q; cases q
    | some ys =>
      rw [z] at q
      obtain ⟨vs, e1, e2⟩ := sqL_inj h1 r1 z
      have q' : ys[k]? = some y := Option.some.inj q
      obtain ⟨v, g1, g2⟩ := e2.get q'
      refine ⟨⟨vs, v, .of e1, g1⟩, fun x H' ⟨eh, yy⟩ => ?_⟩
      subst eh
      have := yy vs (.of e1)
      rw [g1] at this
      cases this
      exact ⟨F1, h1, .refl, g2⟩
theorem sqT_it {K : PySem.W.Frag} {F : Hp} {io : List Addr} {d : D} {a : Addr} (r : Rel K F io d (.ref a)) {xs : List D} (e : seqT d = some xs) : ItOk K F io (Itt K a) (gSeq d) := by
  intro F1 io1 H1 M1 h1 hs hi k
  have r1 := Rel.mono hs hi d _ r
  have nt : ∀ M', seqA M' d = some xs := fun M' => by cases d <;> first | exact e | cases e
  obtain ⟨b, vs, e1, e2, e3⟩ := h1.seqT r1 e
  cases e1
  refine ⟨fun q => ?_, fun y q => ?_⟩
  · unfold gSeq at q
    rw [nt] at q
    refine ⟨vs, e2, ?_⟩
    have q' : xs[k]? = none := Option.some.inj q
    rw [← e3.length]
    exact List.getElem?_eq_none_iff.mp q'
  · unfold gSeq at q
    rw [nt] at q
    have q' : xs[k]? = some y := Option.some.inj q
    obtain ⟨v, g1, g2⟩ := e3.get q'
    refine ⟨⟨vs, v, e2, g1⟩, fun x H' ⟨eh, yy⟩ => ?_⟩
    subst eh
    have := yy vs e2
    rw [g1] at this
    cases this
    exact ⟨F1, h1, .refl, g2⟩
theorem rng_it {K : PySem.W.Frag} {F : Hp} {io : List Addr} (lo : Int) (n : Nat) : ItOk K F io (Itr lo n) (gRng lo n) := by
  intro F1 io1 H1 M1 h1 hs hi k
  refine ⟨fun q => ?_, fun y q => ?_⟩
  · have q' : (if k < n then some (D.int (lo + k)) else none) = none := Option.some.inj q
    split at q'
    · cases q'
    · rename_i z; exact Nat.le_of_not_lt z
  · have q' : (if k < n then some (D.int (lo + k)) else none) = some y := Option.some.inj q
    split at q'
    · rename_i z
      cases q'
      refine ⟨z, fun x H' ⟨eh, ex⟩ => ?_⟩
      subst eh ex
      exact ⟨F1, h1, .refl, rfl⟩
    · cases q'
end
section
variable {X : Cx} {W : WX} {tg e : Expr} {es : List Expr}
/-- a thing that is a list or a tuple, walked -/
theorem pi_seq {l : Expr} {tl : TE} (hl : PE X l tl) : PI X tg l (fun σ H R => tl σ H fun x H1 => ∃ a, x = .ref a ∧ ((∃ xs, SqL X.K H1 a xs) ∧ R (Itl X.K a) H1 ∨ (∃ xs, SqT X.K H1 a xs) ∧ R (Itt X.K a) H1)) := by
  refine ⟨fun pins s σ H R I h => ?_⟩
  refine thn (hl.run pins s σ H _ I h) fun v s1 ⟨x, H1, I1, r1, q1⟩ => ?_
  obtain ⟨a, e, q⟩ := q1
  subst e
  cases r1
  rcases q with ⟨⟨xs, hq⟩, q⟩ | ⟨⟨xs, hq⟩, q⟩
  · obtain ⟨its, rv, p, hz⟩ := I1.list hq
    refine wpAny_pyIter_list p.isList ?_
    refine ⟨s1.heap.objs.size, [s1.heap.objs.size], _, _, H1, rfl, I1.kept (t' := s1.toks) fun b o e => Heap.get?_push_of_some _ e, turn_list a _, ⟨_, Heap.get?_push_size _ rfl, rfl, rfl⟩, fun b hb => ?_, q⟩
    have e : b = s1.heap.objs.size := by simpa using hb
    subst e
    exact I1.fpOk (Nat.le_refl _) (I1.hok.fresh (Nat.le_refl _))
  · obtain ⟨its, rv, p, hz⟩ := I1.tuple hq
    refine wpAny_pyIter_tuple (show s1.heap.IsTuple a its.toArray from p) ?_
    refine ⟨s1.heap.objs.size, [s1.heap.objs.size], _, _, H1, rfl, I1.kept (t' := s1.toks) fun b o e => Heap.get?_push_of_some _ e, turn_tuple a _, ⟨_, Heap.get?_push_size _ rfl, rfl, rfl⟩, fun b hb => ?_, q⟩
    have e : b = s1.heap.objs.size := by simpa using hb
    subst e
    exact I1.fpOk (Nat.le_refl _) (I1.hok.fresh (Nat.le_refl _))
end
end Pc

set_option Elab.async false
set_option linter.all false
set_option maxRecDepth 100000
set_option maxHeartbeats 1000000
set_option autoImplicit false
/-! Pc12: loops, comprehensions -/
namespace Pc
open PySem PySem.Spec PyProof.Rows L2

section
variable {X : Cx} {W : WX} {tg e : Expr} {es : List Expr} {pos : Pos}
theorem im_seq {m : ME} (h : PE X e (tE X.K W m)) : PI X tg e (tI X.K W (mISeq m)) := PI.imp' (pi_seq (pe_d h)) fun σ H Q h => by
  refine PE_t_mono (tI_tD (k := fun d M1 => match seqA M1 d with
    | some xs => .ok (xs.length, gSeq d) M1
    | none => .stuck) h) fun x H1 ⟨d, M1, F1, io1, a, r, p⟩ => ?_
  cases q : seqA M1 d with
  | none => rw [q] at p; exact p.elim
  | some xs =>
    rw [q] at p
    obtain ⟨b, vs, e1, e2, e3⟩ := a.seqA r q
    subst e1
    refine ⟨b, rfl, ?_⟩
    cases ht : Pc.seqT d with
    | some ys =>
      obtain ⟨b', vs', e1', e2', e3'⟩ := a.seqT r ht
      cases e1'
      exact .inr ⟨⟨vs', e2'⟩, p F1 io1 H1 _ a .refl (sqT_it r ht)⟩
    | none =>
      have nt : Pc.seqA M1 d = seqL M1 d := by cases d <;> first | rfl | cases ht
      rw [nt] at q
      obtain ⟨vs', e1', e3'⟩ := sqL_inj a r q
      exact .inl ⟨⟨vs', .of e1'⟩, p F1 io1 H1 _ a .refl (seq_it a r q)⟩
theorem im_rng1 {ms : MDs} {a : Expr} {p : Pos} (hg : Gl X "range") (hm : X.mg "range" = none) (ha : PA X [a] (tDs X.K W ms)) (hn : noStar a = true) : PI X tg (.Call (.Name "range" p) [a] [] pos) (tI X.K W (mIRng1 ms)) :=
  PI.imp' (pi_range1 hg hm ha (by rw [star_cons hn]; rfl)) fun σ H Q h => by
    refine tDs_mono (tI_tDs (k := rng1S) h) fun x H1 ⟨ds, M1, F1, io1, a, r, p⟩ => ?_
    unfold rng1S at p
    split at p
    · rename_i j
      obtain ⟨v, t, e1, e2, e3⟩ := (show ∃ v t, x = v :: t ∧ v = V.int j ∧ RelL X.K F1 io1 [] t from r)
      have e3' : t = [] := e3
      subst e1 e2 e3'
      split at p
      · rename_i hj
        obtain ⟨h1, h2⟩ := okI_iff hj
        exact ⟨_, rfl, h1, h2, p F1 io1 H1 _ a .refl (rng_it 0 _)⟩
      · exact p.elim
    · exact p.elim
theorem im_rng2 {ms : MDs} {a b : Expr} {p : Pos} (hg : Gl X "range") (hm : X.mg "range" = none) (ha : PA X [a, b] (tDs X.K W ms)) (hn : noStar a = true) (hn2 : noStar b = true) : PI X tg (.Call (.Name "range" p) [a, b] [] pos) (tI X.K W (mIRng2 ms)) :=
  PI.imp' (pi_range2 hg hm ha (by rw [star_cons hn, star_cons hn2]; rfl) (by rw [star_cons hn2]; rfl)) fun σ H Q h => by
    refine tDs_mono (tI_tDs (k := rng2S) h) fun x H1 ⟨ds, M1, F1, io1, a, r, p⟩ => ?_
    unfold rng2S at p
    split at p
    · rename_i i j
      obtain ⟨v, t, e1, e2, e3⟩ := (show ∃ v t, x = v :: t ∧ v = V.int i ∧ RelL X.K F1 io1 [.int j] t from r)
      obtain ⟨v', t', e1', e2', e3'⟩ := (show ∃ v' t', t = v' :: t' ∧ v' = V.int j ∧ RelL X.K F1 io1 [] t' from e3)
      have e3'' : t' = [] := e3'
      subst e1 e2 e1' e2' e3''
      split at p
      · rename_i hj
        rw [Bool.and_eq_true] at hj
        obtain ⟨h1, h2⟩ := okI_iff hj.1
        obtain ⟨h3, h4⟩ := okI_iff hj.2
        exact ⟨_, _, rfl, ⟨h1, h2, h3, h4⟩, p F1 io1 H1 _ a .refl (rng_it i _)⟩
      · exact p.elim
    · exact p.elim
end

/-! ### for, while -/
def forL (g : GI) (tg : MG) (body : MS) : Nat → Nat → MS
  | f, k, env, M => match g M k with
    | none => .stuck
    | some none => .nx env M
    | some (some d) => match f with
      | 0 => .stuck
      | f + 1 => match tg d with
        | none => .stuck
        | some bs => match body (putE env bs) M with
          | .nx env2 M2 => forL g tg body f (k + 1) env2 M2
          | .ct env2 M2 => forL g tg body f (k + 1) env2 M2
          | .bk env2 M2 => .nx env2 M2
          | .rt rv M2 => .rt rv M2
          | .exc c ns ds env2 M2 => .exc c ns ds env2 M2
          | .stuck => .stuck
def mFor (mi : MI) (tg : MG) (body : MS) : MS := fun env M => (mi env M).toS env fun g M1 => forL g.2 tg body g.1 0 env M1
def whileL (t : MT) (body : MS) : Nat → MS
  | 0, _, _ => .stuck
  | f + 1, env, M => (t env M).toS env fun b M1 => if b then (match body env M1 with
      | .nx env2 M2 => whileL t body f env2 M2
      | .ct env2 M2 => whileL t body f env2 M2
      | .bk env2 M2 => .nx env2 M2
      | .rt rv M2 => .rt rv M2
      | .exc c ns ds env2 M2 => .exc c ns ds env2 M2
      | .stuck => .stuck) else .nx env M1
section
variable {X : Cx} {W : WX} {tg iter : Expr} {body : List Stmt} {pos : Pos}
theorem tS_tI {K : PySem.W.Frag} {σ : St} {H : Hp} {D : Ends} {m : MI} {k : Sl → Nat × GI → Mem → RS} (h : tS K W (fun env M => (m env M).toS env (k env)) D σ H) :
    tI K W m σ H fun J H1 => ∃ g M1 F1 io1 env, HA K F1 io1 H1 M1 ∧ ER K F1 io1 σ env ∧ ItOk K F1 io1 J g.2 ∧ PostS K W F1 io1 H1 D (k env g M1) := by
  obtain ⟨F, io, env, M, ha, er, p⟩ := h
  refine ⟨F, io, env, M, ha, er, ?_⟩
  dsimp only at p
  cases q : m env M with
  | stuck => rw [q] at p; exact p
  | exc c ns ds M' => rw [q] at p; exact fun F' io' H' dd a b c => p F' io' H' dd σ a b (er.mono b.sub b.ids) c
  | ok d M1 =>
    rw [q] at p
    intro F1 io1 H1 x a b c
    exact ⟨d, M1, F1, io1, env, a, er.mono b.sub b.ids, c, PostS.from_ b p⟩
theorem sm_for {mi : MI} {g : MG} {mb : MS} (hp : PassesOwn (model X.prog X.w) X.A X.env X.xe) (hc : X.calm = true) (hi : PI X tg iter (tI X.K W mi)) (hg : PG X tg (tG X.K g)) (hb : PSs X body (tS X.K W mb))
    (hs : ∀ x, foldedSetIterable iter X.env x = pure x) : PS X (.For tg iter body [] pos) (tS X.K W (mFor mi g mb)) := PS.imp' (ps_for hp hc hi hg hb hs) fun D σ H h => by
  have h1 := tS_tI (k := fun env q M1 => forL q.2 g mb q.1 0 env M1) h
  obtain ⟨F, io, env, M, ha, er, p⟩ := h1
  refine ⟨F, io, env, M, ha, er, ?_⟩
  cases q : mi env M with
  | stuck => rw [q] at p; exact p
  | exc c ns ds M' => rw [q] at p; exact p
  | ok gg M1 =>
    rw [q] at p
    intro F0 io0 H0 J a0 b0 c0
    obtain ⟨gi, M1, F1, io1, env1, ha1, er1, it1, p1⟩ := p F0 io0 H0 J a0 b0 c0
    refine ⟨fun i m σ H => ∃ F io env M, HA X.K F io H M ∧ Ex F1 io1 H0 F io H ∧ ER X.K F io σ env ∧ PostS X.K W F io H D (forL gi.2 g mb m i env M), ⟨gi.1, F1, io1, env1, M1, ha1, .refl, er1, p1⟩, ?_⟩
    rintro i m σ2 H2 ⟨F2, io2, env2, M2, ha2, ex2, er2, p2⟩
    obtain ⟨j1, j2⟩ := it1 F2 io2 H2 M2 ha2 ex2.sub ex2.ids i
    unfold forL at p2
    cases z : gi.2 M2 i with
    | none => rw [z] at p2; exact p2.elim
    | some o =>
      rw [z] at p2
      cases o with
      | none => exact .inl ⟨j1 z, p2 F2 io2 H2 σ2 ha2 .refl er2⟩
      | some d =>
        obtain ⟨j3, j4⟩ := j2 d z
        refine .inr ⟨j3, ?_⟩
        cases m with
        | zero => exact p2.elim
        | succ m =>
          dsimp only at p2
          cases y : g d with
          | none => rw [y] at p2; exact p2.elim
          | some bs =>
            rw [y] at p2
            dsimp only at p2
            refine ⟨fun σ H => ∃ F io env M, HA X.K F io H M ∧ Ex F1 io1 H0 F io H ∧ ER X.K F io σ env ∧ PostS X.K W F io H D (forL gi.2 g mb m (i + 1) env M), fun σ' H' w => ⟨m, Nat.lt_succ_self _, w⟩, fun x H3 yy => ?_⟩
            obtain ⟨F3, ha3, ex3, r3⟩ := j4 x H3 yy
            refine ⟨F3, io2, M2, d, bs, ha3, r3, y, fun us rb => ⟨F3, io2, putE env2 bs, M2, ha3, (er2.mono ex3.sub ex3.ids).puts rb, ?_⟩⟩
            have p3 := PostS.from_ ex3 p2
            have ex13 := ex2.trans ex3
            cases t : mb (putE env2 bs) M2 with
            | stuck => rw [t] at p3; exact p3
            | exc c ns ds env4 M4 => rw [t] at p3; exact p3
            | rt rv M4 => rw [t] at p3; exact p3
            | bk env4 M4 => rw [t] at p3; exact p3
            | ct env4 M4 => rw [t] at p3; exact fun F' io' H' σ' a b c => ⟨F', io', env4, M4, a, ex13.trans b, c, PostS.from_ b p3⟩
            | nx env4 M4 => rw [t] at p3; exact fun F' io' H' σ' a b c => ⟨F', io', env4, M4, a, ex13.trans b, c, PostS.from_ b p3⟩
theorem sm_while {f : Nat} {c : Expr} {t : MT} {mb : MS} (hp : PassesOwn (model X.prog X.w) X.A X.env X.xe) (hc : PT X c (tT X.K W t)) (hb : PSs X body (tS X.K W mb)) : PS X (.While c body [] pos) (tS X.K W (whileL t mb f)) := PS.imp' (ps_while hp hc hb) fun D σ H h => by
  refine ⟨fun m σ H => tS X.K W (whileL t mb m) D σ H, ⟨f, h⟩, ?_⟩
  rintro m σ1 H1 w
  cases m with
  | zero => obtain ⟨F, io, env, M, ha, er, p⟩ := w; exact p.elim
  | succ m =>
    have w2 := tS_tT (k := fun env b M1 => if b then (match mb env M1 with
      | .nx env2 M2 => whileL t mb m env2 M2
      | .ct env2 M2 => whileL t mb m env2 M2
      | .bk env2 M2 => .nx env2 M2
      | .rt rv M2 => .rt rv M2
      | .exc c ns ds env2 M2 => .exc c ns ds env2 M2
      | .stuck => .stuck) else .nx env M1) w
    refine tT_mono w2 fun b H2 ⟨M1, F1, io1, env, a, er, p⟩ => ?_
    cases b with
    | false => exact p F1 io1 H2 σ1 a .refl er
    | true =>
      refine ⟨fun σ H => tS X.K W (whileL t mb m) D σ H, fun σ' H' w => ⟨m, Nat.lt_succ_self _, w⟩, F1, io1, env, M1, a, er, ?_⟩
      simp only [if_true] at p
      cases y : mb env M1 with
      | stuck => rw [y] at p; exact p
      | exc c ns ds env4 M4 => rw [y] at p; exact p
      | rt rv M4 => rw [y] at p; exact p
      | bk env4 M4 => rw [y] at p; exact p
      | ct env4 M4 => rw [y] at p; exact fun F' io' H' σ' a b c => ⟨F', io', env4, M4, a, c, PostS.from_ b p⟩
      | nx env4 M4 => rw [y] at p; exact fun F' io' H' σ' a b c => ⟨F', io', env4, M4, a, c, PostS.from_ b p⟩
end

/-! ### list comprehensions -/
def noX {α : Type} : R α → R α
  | .exc _ _ _ _ => .stuck
  | r => r
def lcL (g : GI) (tg : MG) (t : MT) (e : MD) (vs : List Nat) (env : Sl) : Nat → Nat → Mem → List D → R (List D)
  | f, k, M, acc => match g M k with
    | none => .stuck
    | some none => .ok acc M
    | some (some d) => match f with
      | 0 => .stuck
      | f + 1 => match tg d with
        | none => .stuck
        | some bs => if bs.all (fun b => vs.contains b.1) then (noX (t (putE (wipeS env vs) bs) M)).bind fun b M1 => if b then (noX (e (putE (wipeS env vs) bs) M1)).bind fun d M2 => if acc.length < sizeLine then lcL g tg t e vs env f (k + 1) M2 (acc ++ [d]) else .stuck
          else lcL g tg t e vs env f (k + 1) M1 acc else .stuck
def mLc (mi : MI) (tg : MG) (t : MT) (e : MD) (vs : List Nat) : ME := fun env M => (mi env M).bind fun g M1 => (lcL g.2 tg t e vs env g.1 0 M1 []).bind fun ds M2 => .ok (.own (.lst ds)) M2
abbrev W0 : WX := fun _ _ _ _ => False
theorem tI_tE {K : PySem.W.Frag} {W : WX} {σ : St} {H : Hp} {m : MI} {k : Sl → Nat × GI → Mem → R RV} {Q : VK} (h : tE K W (fun env M => (m env M).bind (k env)) σ H Q) :
    tI K W m σ H fun J H1 => ∃ g M1 F1 io1 env, HA K F1 io1 H1 M1 ∧ ER K F1 io1 σ env ∧ ItOk K F1 io1 J g.2 ∧ PostE K W F1 io1 H1 σ Q (k env g M1) := by
  obtain ⟨F, io, env, M, ha, er, p⟩ := h
  refine ⟨F, io, env, M, ha, er, ?_⟩
  dsimp only at p
  cases q : m env M with
  | stuck => rw [q] at p; exact p
  | exc c ns ds M' => rw [q] at p; exact p
  | ok d M1 =>
    rw [q] at p
    intro F1 io1 H1 x a b c
    exact ⟨d, M1, F1, io1, env, a, er.mono b.sub b.ids, c, PostE.from_ b p⟩
section
variable {K : PySem.W.Frag} {F H F1 H1 : Hp} {io io1 : List Addr} {M : Mem}
/-- a thing that nobody knows of is written -/
theorem HA.poke {D : Addr} {o : HO} (h : HA K F io H M) (hF : F D = none) (hi : D ∉ io) : HA K F io (upd H D o) M := by
  refine ⟨fun b u e => ?_, h.len, h.nd, fun i u e => ?_⟩
  · rw [upd_ne (fun z => by subst z; rw [hF] at e; cases e)]; exact h.sub b u e
  · obtain ⟨c, e1, e2, e3⟩ := h.at_ i u e
    exact ⟨c, e1, e2, e3.mono (Same.refl _) (fun _ _ z => z) (upd_ne fun z => by subst z; exact hi (List.mem_of_getElem? e1))⟩
theorem Ex.poke {D : Addr} {o : HO} (x : Ex F io H F1 io1 H1) (h0 : H D = none) : Ex F io H F1 io1 (upd H1 D o) := by
  refine ⟨x.sub, x.ids, fun b u e n => ?_, x.newF, x.newI, fun b e => ?_⟩
  · rw [upd_ne (ne_of_none e h0)]; exact x.frame b u e n
  · by_cases q : b = D
    · subst q; rw [upd_same]; exact fun z => nomatch z
    · rw [upd_ne q]; exact x.there b e
/-- what happens elsewhere leaves it alone -/
theorem Ex.alone {D : Addr} {o : HO} (x : Ex F io H F1 io1 H1) (e : H D = some o) (hF : F D = none) (hi : D ∉ io) : H1 D = some o ∧ F1 D = none ∧ D ∉ io1 := by
  refine ⟨x.frame D o e hi, ?_, fun z => ?_⟩
  · cases q : F1 D with
    | none => rfl
    | some u =>
      rcases x.newF D u q with w | w
      · rw [hF] at w; cases w
      · rw [e] at w; cases w
  · rcases x.newI D z with w | w
    · exact hi w
    · rw [e] at w; cases w
theorem wipe_idem (σ : St) (vs : List Nat) : wipe (wipe σ vs) vs = wipe σ vs := by
  refine List.ext_getElem? fun k => ?_
  by_cases h : k ∈ vs
  · rw [wipe_put.wipe_in h, wipe_put.wipe_in h, wipe_length]
  · rw [wipe_out h]
end
/-- the loop's state: the list at D is being made -/
def LcSt (K : PySem.W.Frag) (W : WX) (σ : St) (Q : VK) (D : Addr) (F1 : Hp) (io1 : List Addr) (H0 : Hp) (g : GI) (tg : MG) (t : MT) (e : MD) (vs : List Nat) (env : Sl) (i m : Nat) (H : Hp) : Prop :=
  ∃ F io M acc vacc, HA K F io H M ∧ Ex F1 io1 H0 F io H ∧ H D = some (.lst vacc) ∧ F D = none ∧ D ∉ io ∧ RelL K F io acc vacc ∧
    PostE K W F1 io1 H0 σ Q ((lcL g tg t e vs env m i M acc).bind fun ds M2 => .ok (.own (.lst ds)) M2)
theorem lc_imp {K : PySem.W.Frag} {W : WX} {σ : St} {H : Hp} {Q : VK} {mi : MI} {tg : MG} {t : MT} {e : MD} {vs : List Nat} (h : tE K W (mLc mi tg t e vs) σ H Q) : tLc (tI K W mi) (tG K tg) (tT K W0 t) (tD K W0 e) vs σ H Q := by
  have h1 := tI_tE (k := fun env g M1 => (lcL g.2 tg t e vs env g.1 0 M1 []).bind fun ds M2 => .ok (.own (.lst ds)) M2) h
  obtain ⟨F, io, env, M, ha, er, p⟩ := h1
  refine ⟨F, io, env, M, ha, er, ?_⟩
  cases q : mi env M with
  | stuck => rw [q] at p; exact p
  | exc c ns ds M' => rw [q] at p; exact p
  | ok gg M1 =>
    rw [q] at p
    intro F0 io0 H0 J a0 b0 c0 D hD
    obtain ⟨gi, M1, F1, io1, env1, ha1, er1, it1, p1⟩ := p F0 io0 H0 J a0 b0 c0
    have nx : ∀ {Y}, (upd H0 D Y) D = some Y := fun {Y} => upd_same
    refine ⟨fun i m H => LcSt K W σ Q D F1 io1 H0 gi.2 tg t e vs env1 i m H, ⟨gi.1, F1, io1, M1, [], [], ha1.new hD, Ex.new ha1 hD, upd_same, ha1.fnone hD, ha1.notin hD, rfl, p1⟩, ?_⟩
    rintro i m H2 ⟨F2, io2, M2, acc, vacc, ha2, ex2, hd2, fd2, id2, rl2, p2⟩
    obtain ⟨j1, j2⟩ := it1 F2 io2 H2 M2 ha2 ex2.sub ex2.ids i
    unfold lcL at p2
    cases z : gi.2 M2 i with
    | none => rw [z] at p2; exact p2.elim
    | some o =>
      rw [z] at p2
      cases o with
      | none => exact .inl ⟨j1 z, p2 F2 io2 H2 _ ha2 ex2 ⟨D, rfl, hD, fd2, id2, vacc, hd2, rl2⟩⟩
      | some d =>
        obtain ⟨j3, j4⟩ := j2 d z
        refine .inr ⟨j3, ?_⟩
        cases m with
        | zero => exact p2.elim
        | succ m =>
          dsimp only at p2
          cases y : tg d with
          | none => rw [y] at p2; exact p2.elim
          | some bs =>
            rw [y] at p2
            dsimp only at p2
            split at p2
            · rename_i hvs
              refine ⟨fun H => LcSt K W σ Q D F1 io1 H0 gi.2 tg t e vs env1 (i + 1) m H, fun H' w => ⟨m, Nat.lt_succ_self _, w⟩, fun x H3 yy => ?_⟩
              obtain ⟨F3, ha3, ex3, r3⟩ := j4 x H3 yy
              obtain ⟨hd3, fd3, id3⟩ := ex3.alone hd2 fd2 id2
              have ex13 := ex2.trans ex3
              refine ⟨F3, io2, M2, d, bs, ha3, r3, y, fun us rb => ⟨?_, ?_⟩⟩
              · rw [wipe_putV, wipe_idem]
                intro pr hpr
                have : pr.1 ∈ us.map (·.1) := List.mem_map_of_mem hpr
                rw [rb.ix] at this
                obtain ⟨b, hb, eb⟩ := List.mem_map.mp this
                have := List.all_eq_true.mp hvs b hb
                rw [← eb]
                exact List.contains_iff_mem.mp this
              · have er3 := (((er1.mono ex13.sub ex13.ids).wipe vs).puts rb)
                refine ⟨F3, io2, _, M2, ha3, er3, ?_⟩
                cases u : t (putE (wipeS env1 vs) bs) M2 with
                | stuck => rw [u] at p2; exact p2.elim
                | exc c ns ds M4 => rw [u] at p2; exact p2.elim
                | ok b M4 =>
                  rw [u] at p2
                  intro F4 io4 H4 ha4 ex4
                  obtain ⟨hd4, fd4, id4⟩ := ex4.alone hd3 fd3 id3
                  have ex14 := ex13.trans ex4
                  cases b with
                  | false => exact ⟨F4, io4, M4, acc, vacc, ha4, ex14, hd4, fd4, id4, RelL.mono (ex3.trans ex4).sub (ex3.trans ex4).ids _ _ rl2, p2⟩
                  | true =>
                    refine ⟨F4, io4, _, M4, ha4, er3.mono ex4.sub ex4.ids, ?_⟩
                    have p2 : PostE K W F1 io1 H0 σ Q (((noX (e (putE (wipeS env1 vs) bs) M4)).bind fun d M2 => if acc.length < sizeLine then lcL gi.2 tg t e vs env1 m (i + 1) M2 (acc ++ [d]) else .stuck).bind fun ds M2 => .ok (.own (.lst ds)) M2) := p2
                    cases w : e (putE (wipeS env1 vs) bs) M4 with
                    | stuck => rw [w] at p2; exact p2.elim
                    | exc c ns ds M5 => rw [w] at p2; exact p2.elim
                    | ok y5 M5 =>
                      rw [w] at p2
                      intro F5 io5 H5 v5 ha5 ex5 r5
                      obtain ⟨hd5, fd5, id5⟩ := ex5.alone hd4 fd4 id4
                      have p2 : PostE K W F1 io1 H0 σ Q ((if acc.length < sizeLine then lcL gi.2 tg t e vs env1 m (i + 1) M5 (acc ++ [y5]) else .stuck).bind fun ds M2 => .ok (.own (.lst ds)) M2) := p2
                      have ex25 := (ex3.trans ex4).trans ex5
                      have rl5 := RelL.mono ex25.sub ex25.ids _ _ rl2
                      split at p2
                      · rename_i hl
                        refine ⟨vacc, hd5, by rw [← rl5.length]; exact hl, F5, io5, M5, acc ++ [y5], vacc ++ [v5], ha5.poke fd5 id5, Ex.poke (ex14.trans ex5) hD, upd_same, fd5, id5, rl5.append ⟨v5, [], rfl, r5, rfl⟩, p2⟩
                      · exact p2.elim
            · exact p2.elim
section
variable {X : Cx} {W : WX} {elt tg iter : Expr} {ifs : List Expr} {pos : Pos} {scope : Scope} {own : List (Str × Nat)} {mi : MI} {g : MG} {t : MT} {m : ME} {mu : Bool}
theorem pm_lc (hc : X.calm = true) (hN : X.N.Nodup) (hi : PI X tg iter (tI X.K W mi)) (ok : BlkOk X.N X.env.scope scope own)
    (hg : ∀ (s : Shared) (H : Hp) (C : Addr) (cl : List (Str × Addr)) (fp : List Addr), PG (X.blk s H scope (compEnvC scope cl C X.env) fp) tg (tG X.K g)) (ht : ∀ (s : Shared) (H : Hp) (C : Addr) (cl : List (Str × Addr)) (fp : List Addr), PTs (X.blk s H scope (compEnvC scope cl C X.env) fp) ifs (tT X.K W0 t))
    (he : ∀ (s : Shared) (H : Hp) (C : Addr) (cl : List (Str × Addr)) (fp : List Addr), PE (X.blk s H scope (compEnvC scope cl C X.env) fp) elt (tE X.K W0 m)) (hs : ∀ x, foldedSetIterable iter X.env x = pure x) :
    PE X (.ListComp elt [⟨tg, iter, ifs, 0⟩] scope pos) (tE X.K W (mLc mi g t (mA mu m) (own.map (·.2)))) :=
  PE.imp' (pe_lc hc hN hi ok hg ht (fun s H C cl fp => pe_a mu (he s H C cl fp)) hs) fun σ H Q h => lc_imp h
theorem sm_setLc {i : Nat} {y : Str} {py spos : Pos} {mv : Bool} (hc : X.calm = true) (hN : X.N.Nodup) (hy : X.N[i]? = some y) (hyl : X.env.scope.names.lookup y = some .local)
    (hsw : swapsWith (.ListComp elt [⟨tg, iter, ifs, 0⟩] scope pos) (some (.Name y py)) spos.line X.env = pure true) (hi : PI X tg iter (tI X.K W mi)) (ok : BlkOk X.N X.env.scope scope own)
    (hg : ∀ (s : Shared) (H : Hp) (C : Addr) (cl : List (Str × Addr)) (fp : List Addr), PG (X.blk s H scope (compEnvC scope cl C X.env) fp) tg (tG X.K g)) (ht : ∀ (s : Shared) (H : Hp) (C : Addr) (cl : List (Str × Addr)) (fp : List Addr), PTs (X.blk s H scope (compEnvC scope cl C X.env) fp) ifs (tT X.K W0 t))
    (he : ∀ (s : Shared) (H : Hp) (C : Addr) (cl : List (Str × Addr)) (fp : List Addr), PE (X.blk s H scope (compEnvC scope cl C X.env) fp) elt (tE X.K W0 m)) (hs : ∀ x, foldedSetIterable iter X.env x = pure x) :
    PS X (.Assign [.Name y py] (.ListComp elt [⟨tg, iter, ifs, 0⟩] scope pos) spos) (tS X.K W (mSet mv i (mLc mi g t (mA mu m) (own.map (·.2))))) :=
  PS.imp' (ps_setLc hc hN hy hyl hsw hi ok hg ht (fun s H C cl fp => pe_a mu (he s H C cl fp)) hs) fun D σ H h => by
    refine lc_imp (e := mA mu m) (tE_of_tA (m := mLc mi g t (mA mu m) (own.map (·.2))) mv ?_)
    refine (PE_t_mono (tS_tD (k := fun env d M1 => .nx (env.set i (some d)) M1) h)) fun x H1 ⟨d, M1, F1, io1, env, a, b, c, p⟩ => p F1 io1 H1 _ a .refl (b.put c)
def mYes : MT := fun _ M => .ok true M
theorem ptsm_nil : PTs X [] (tT X.K W mYes) := ⟨fun pins s σ H Q I ⟨F, io, env, M, a, b, p⟩ => pts_nil.run pins s σ H Q I (p F io H a .refl)⟩
end
end Pc

set_option Elab.async false
set_option linter.all false
set_option maxRecDepth 100000
set_option maxHeartbeats 1000000
set_option autoImplicit false
/-! Pc13: methods of built-in types -/
namespace Pc
open PySem PySem.Spec PyProof.Rows L2

def vN (M : Mem) : R RV := .ok (.val .non) M
def joinS (d : D) (ds : List D) (M : Mem) : R RV := match d, ds with
  | .str a, [e] => (match (seqA M e).bind strsOf with
    | some ys => if (ys.map (·.length)).sum + ys.length * a.length ≤ 16777216 then .ok (.val (.str (Txt.join a ys))) M else .stuck
    | none => .stuck)
  | _, _ => .stuck
def splitS (d : D) (ds : List D) (M : Mem) : R RV := match d, ds with
  | .str a, [.str b] => if (b.length == 0) = false ∧ a.length + 2 ≤ sizeLine then .ok (.own (.lst ((Txt.split a b).map D.str))) M else .stuck
  | _, _ => .stuck
def appendS (d : D) (ds : List D) (M : Mem) : R RV := match d, ds with
  | .ref i, [e] => (match M[i]? with
    | some (.lst xs) => if xs.length < sizeLine then vN (M.set i (.lst (xs ++ [e]))) else .stuck
    | _ => .stuck)
  | _, _ => .stuck
def popS (d : D) (ds : List D) (M : Mem) : R RV := match d, ds with
  | .ref i, [.int k] => (match M[i]? with
    | some (.lst xs) => if 0 ≤ k ∧ k < xs.length ∧ k < 2 ^ 63 then (match xs[k.toNat]? with
      | some y => .ok (.val y) (M.set i (.lst (xs.eraseIdx k.toNat)))
      | none => .stuck) else .stuck
    | _ => .stuck)
  | .ref i, [] => (match M[i]? with
    | some (.lst xs) => (match xs[xs.length - 1]? with
      | some y => .ok (.val y) (M.set i (.lst xs.dropLast))
      | none => .stuck)
    | _ => .stuck)
  | _, _ => .stuck
def extendS (d : D) (ds : List D) (M : Mem) : R RV := match d, ds with
  | .ref i, [e] => (match M[i]?, seqL M e with
    | some (.lst xs), some ys => if xs.length + ys.length ≤ sizeLine then vN (M.set i (.lst (xs ++ ys))) else .stuck
    | _, _ => .stuck)
  | _, _ => .stuck
/-- a flat thing's own value -/
def flV : D → V
  | .bl b => .bl b
  | .int i => .int i
  | .str x => .str x
  | _ => .non
/-- the first place of a flat thing in flat ones -/
def findD (y : D) : List D → Option Nat
  | [] => none
  | z :: r => if eqV (flV z) (flV y) then some 0 else (findD y r).map (· + 1)
def indexS (d : D) (ds : List D) (M : Mem) : R RV := match ds with
  | [e] => (match seqL M d with
    | some xs => if flatD e && xs.all flatD then (match findD e xs with
      | some j => .ok (.val (.int j)) M
      | none => .stuck) else .stuck
    | none => .stuck)
  | _ => .stuck
section
variable {X : Cx}
theorem RelL.strs {K : PySem.W.Frag} {F : Hp} {io : List Addr} : ∀ ys : List Str, RelL K F io (ys.map D.str) (ys.map V.str)
  | [] => rfl
  | y :: ys => ⟨V.str y, ys.map V.str, rfl, rfl, RelL.strs ys⟩
theorem mb_join : MethB X "join" "str" joinS := ⟨_, F.plainAttrs_str, F.slot_str_join, F.type_str_join, by
  rintro pins s σ H x xs v us Q I rx rxs ⟨F, io, M, d, ds, W, σ', ha, rd, rl, p⟩
  unfold joinS at p
  split at p
  · rename_i a e
    obtain ⟨w, rfl, r1⟩ := relL1 rl
    obtain rfl : x = V.str a := rd
    split at p
    · rename_i ys hy
      cases q : seqA M e with
      | none => rw [q] at hy; cases hy
      | some zs =>
        rw [q] at hy
        obtain ⟨b, vs, rfl, hs, rl2⟩ := ha.seqA r1 q
        have hv := strs_rel rl2 hy
        subst hv
        split at p
        · rename_i hz
          exact mt_join pins s σ H _ _ v us Q I rx rxs ⟨a, b, ys, rfl, rfl, hs, hz, post_val p ha rfl⟩
        · exact p.elim
    · exact p.elim
  · exact p.elim⟩
theorem mb_split : MethB X "split" "str" splitS := ⟨_, F.plainAttrs_str, F.slot_str_split, F.type_str_split, by
  rintro pins s σ H x xs v us Q I rx rxs ⟨F, io, M, d, ds, W, σ', ha, rd, rl, p⟩
  unfold splitS at p
  split at p
  · rename_i a b
    obtain ⟨w, rfl, r1⟩ := relL1 rl
    obtain rfl : x = V.str a := rd
    obtain rfl : w = V.str b := r1
    split at p
    · rename_i hz
      exact mt_split pins s σ H _ _ v us Q I rx rxs ⟨a, b, rfl, rfl, hz.1, hz.2, fun q hq => post_lst p ha (RelL.strs _) hq⟩
    · exact p.elim
  · exact p.elim⟩
theorem HA.mlst {K : PySem.W.Frag} {F H : Hp} {io : List Addr} {M : Mem} {i : Nat} {x : V} {xs : List D} (ha : HA K F io H M) (rd : Rel K F io (.ref i) x) (h : M[i]? = some (.lst xs)) : ∃ a vs, x = .ref a ∧ io[i]? = some a ∧ H a = some (.lst vs) ∧ RelL K F io xs vs ∧ F a = none := by
  obtain ⟨a, e, q⟩ := (show ∃ a, x = V.ref a ∧ io[i]? = some a from rd)
  obtain ⟨b, e1, e2, vs, e3, e4⟩ := ha.at_ i _ h
  rw [q] at e1
  cases e1
  exact ⟨a, vs, e, q, e3, e4, e2⟩
theorem mb_append : MethB X "append" "list" appendS := ⟨_, F.plainAttrs_list, F.slot_list_append, F.type_list_append, by
  rintro pins s σ H x xs v us Q I rx rxs ⟨F, io, M, d, ds, W, σ', ha, rd, rl, p⟩
  unfold appendS at p
  split at p
  · rename_i i e
    obtain ⟨w, rfl, r1⟩ := relL1 rl
    split at p
    · rename_i ys hM
      obtain ⟨a, vs, rfl, hi, hH, rl2, hF⟩ := ha.mlst rd hM
      split at p
      · rename_i hz
        have mr : MR X.K F io (upd H a (.lst (vs ++ [w]))) a (.lst (ys ++ [e])) := ⟨_, upd_same, rl2.append ⟨w, [], rfl, r1, rfl⟩⟩
        obtain ⟨h1, h2⟩ := ha.write hi mr
        exact mt_append pins s σ H _ _ v us Q I rx rxs ⟨a, vs, w, rfl, rfl, hH, by rw [← rl2.length]; exact hz, p F io _ _ h1 h2 rfl⟩
      · exact p.elim
    · exact p.elim
  · exact p.elim⟩
theorem RelL.erase {K : PySem.W.Frag} {F : Hp} {io : List Addr} : ∀ (n : Nat) {ds : List D} {vs : List V}, RelL K F io ds vs → RelL K F io (ds.eraseIdx n) (vs.eraseIdx n)
  | n, [], _, h => by rw [show _ = [] from h]; exact rfl
  | 0, d :: ds, _, h => by obtain ⟨v, r, rfl, h1, h2⟩ := (show ∃ v r, _ = v :: r ∧ Rel K F io d v ∧ RelL K F io ds r from h); exact h2
  | n + 1, d :: ds, _, h => by obtain ⟨v, r, rfl, h1, h2⟩ := (show ∃ v r, _ = v :: r ∧ Rel K F io d v ∧ RelL K F io ds r from h); exact ⟨v, _, rfl, h1, RelL.erase n h2⟩
theorem RelL.dropLast {K : PySem.W.Frag} {F : Hp} {io : List Addr} {ds : List D} {vs : List V} (h : RelL K F io ds vs) : RelL K F io ds.dropLast vs.dropLast := by
  rw [List.dropLast_eq_take, List.dropLast_eq_take, ← h.length]
  exact RelL.take _ h
theorem mb_pop : MethB X "pop" "list" popS := ⟨_, F.plainAttrs_list, F.slot_list_pop, F.type_list_pop, by
  rintro pins s σ H x xs v us Q I rx rxs ⟨F, io, M, d, ds, W, σ', ha, rd, rl, p⟩
  unfold popS at p
  split at p
  · rename_i i k
    obtain ⟨w, rfl, r1⟩ := relL1 rl
    obtain rfl : w = V.int k := r1
    split at p
    · rename_i ys hM
      obtain ⟨a, vs, rfl, hi, hH, rl2, hF⟩ := ha.mlst rd hM
      split at p
      · rename_i hz
        obtain ⟨z1, z2, z3⟩ := hz
        split at p
        · rename_i y hy
          obtain ⟨yv, hyv, ry⟩ := rl2.get hy
          have mr : MR X.K F io (upd H a (.lst (vs.eraseIdx k.toNat))) a (.lst (ys.eraseIdx k.toNat)) := ⟨_, upd_same, RelL.erase _ rl2⟩
          obtain ⟨h1, h2⟩ := ha.write hi mr
          refine mt_popAt pins s σ H _ _ v us Q I rx rxs ⟨a, vs, k, k.toNat, yv, rfl, rfl, hH, by omega, z3, ?_, hyv, p F io _ _ h1 h2 ry⟩
          unfold seqIndex?
          have hl := rl2.length
          have e1 : (if k < 0 then k + (vs.length : Int) else k) = k := if_neg (by omega)
          simp only [e1]
          rw [if_pos (by simp; omega)]
        · exact p.elim
      · exact p.elim
    · exact p.elim
  · rename_i i
    obtain rfl : xs = [] := rl
    split at p
    · rename_i ys hM
      obtain ⟨a, vs, rfl, hi, hH, rl2, hF⟩ := ha.mlst rd hM
      split at p
      · rename_i y hy
        obtain ⟨yv, hyv, ry⟩ := rl2.get hy
        have mr : MR X.K F io (upd H a (.lst vs.dropLast)) a (.lst ys.dropLast) := ⟨_, upd_same, rl2.dropLast⟩
        obtain ⟨h1, h2⟩ := ha.write hi mr
        exact mt_pop pins s σ H _ _ v us Q I rx rxs ⟨a, vs, yv, rfl, rfl, hH, by rw [← rl2.length]; exact hyv, p F io _ _ h1 h2 ry⟩
      · exact p.elim
    · exact p.elim
  · exact p.elim⟩
theorem mb_extend : MethB X "extend" "list" extendS := ⟨_, F.plainAttrs_list, F.slot_list_extend, F.type_list_extend, by
  rintro pins s σ H x xs v us Q I rx rxs ⟨F, io, M, d, ds, W, σ', ha, rd, rl, p⟩
  unfold extendS at p
  split at p
  · rename_i i e
    obtain ⟨w, rfl, r1⟩ := relL1 rl
    split at p
    · rename_i ys zs hM he
      obtain ⟨a, vs, rfl, hi, hH, rl2, hF⟩ := ha.mlst rd hM
      obtain ⟨b, us', rfl, hH', rl3⟩ := ha.lst r1 he
      split at p
      · rename_i hz
        have mr : MR X.K F io (upd H a (.lst (vs ++ us'))) a (.lst (ys ++ zs)) := ⟨_, upd_same, rl2.append rl3⟩
        obtain ⟨h1, h2⟩ := ha.write hi mr
        exact mt_extend pins s σ H _ _ v us Q I rx rxs ⟨a, b, vs, us', rfl, rfl, hH, hH', by rw [← rl2.length, ← rl3.length]; exact hz, p F io _ _ h1 h2 rfl⟩
      · exact p.elim
    · exact p.elim
  · exact p.elim⟩
theorem flV_rel {K : PySem.W.Frag} {F : Hp} {io : List Addr} {d : D} {v : V} (f : flatD d = true) (r : Rel K F io d v) : v = flV d := by
  cases d <;> first | exact r | (exact absurd f (by decide)) | (cases f)
theorem flVs_rel {K : PySem.W.Frag} {F : Hp} {io : List Addr} : ∀ {ds : List D} {vs : List V}, ds.all flatD = true → RelL K F io ds vs → vs = ds.map flV
  | [], _, _, r => r
  | d :: ds, _, f, r => by
    obtain ⟨v, t, rfl, h1, h2⟩ := (show ∃ v t, _ = v :: t ∧ Rel K F io d v ∧ RelL K F io ds t from r)
    rw [List.all_cons, Bool.and_eq_true] at f
    rw [flV_rel f.1 h1, flVs_rel f.2 h2]
    rfl
theorem flV_flat {d : D} (f : flatD d = true) : flatV (flV d) = true := by cases d <;> first | rfl | (cases f)
theorem findD_some {y : D} : ∀ {xs : List D} {j : Nat}, findD y xs = some j → ∃ z, xs[j]? = some z ∧ eqV (flV z) (flV y) = true ∧ ∀ m z', m < j → xs[m]? = some z' → eqV (flV z') (flV y) = false
  | [], _, h => by cases h
  | x :: r, j, h => by
    unfold findD at h
    split at h
    · rename_i hx
      cases h
      exact ⟨x, rfl, hx, fun m z' hm => absurd hm (Nat.not_lt_zero _)⟩
    · rename_i hx
      cases q : findD y r with
      | none => rw [q] at h; cases h
      | some k =>
        rw [q] at h
        cases h
        obtain ⟨z, h1, h2, h3⟩ := findD_some q
        refine ⟨z, h1, h2, fun m z' hm hz => ?_⟩
        cases m with
        | zero => cases hz; exact Bool.eq_false_iff.mpr hx
        | succ m => exact h3 m z' (Nat.lt_of_succ_lt_succ hm) hz
theorem mb_index : MethB X "index" "list" indexS := ⟨_, F.plainAttrs_list, F.slot_list_index, F.type_list_index, by
  rintro pins s σ H x xs v us Q I rx rxs ⟨F, io, M, d, ds, W, σ', ha, rd, rl, p⟩
  unfold indexS at p
  split at p
  · rename_i e
    obtain ⟨w, rfl, r1⟩ := relL1 rl
    split at p
    · rename_i ys hy
      obtain ⟨a, vs, rfl, hH, rl2⟩ := ha.lst rd hy
      split at p
      · rename_i hf
        rw [Bool.and_eq_true] at hf
        split at p
        · rename_i j hj
          obtain ⟨z, h1, h2, h3⟩ := findD_some hj
          have ew := flV_rel hf.1 r1
          have ev := flVs_rel hf.2 rl2
          subst ew ev
          refine mt_index pins s σ H _ _ v us Q I rx rxs ⟨a, _, _, j, flV z, rfl, rfl, .of hH, flV_flat hf.1, ?_, by rw [List.getElem?_map, h1]; rfl, h2, fun m z' hm hz => ?_, post_val p ha rfl⟩
          · rw [List.all_map]
            exact List.all_eq_true.mpr fun d hd => flV_flat (List.all_eq_true.mp hf.2 d hd)
          · rw [List.getElem?_map] at hz
            cases q : ys[m]? with
            | none => rw [q] at hz; cases hz
            | some z0 => rw [q] at hz; cases hz; exact h3 m z0 hm q
        · exact p.elim
      · exact p.elim
    · exact p.elim
  · exact p.elim⟩
end
/-- the methods that are known -/
def methAlts (name : Str) : Alts :=
  if name = ("join" : Str) then [("str", joinS)]
  else if name = ("split" : Str) then [("str", splitS)]
  else if name = ("append" : Str) then [("list", appendS)]
  else if name = ("pop" : Str) then [("list", popS)]
  else if name = ("extend" : Str) then [("list", extendS)]
  else if name = ("index" : Str) then [("list", indexS)]
  else []
theorem methAlts_ok {X : Cx} {name : Str} : ∀ T f, (methAlts name).lookup T = some f → MethB X name T f := by
  intro T f h
  have one : ∀ {n : Str} {U : String} {g : D → List D → Mem → R RV}, MethB X n U g → ([(U, g)] : Alts).lookup T = some f → MethB X n T f := by
    intro n U g m e
    rw [List.lookup_cons] at e
    split at e
    · rename_i q
      cases e
      rw [beq_iff_eq.mp q]
      exact m
    · cases e
  unfold methAlts at h
  split at h
  · rename_i e; subst e; exact one mb_join h
  split at h
  · rename_i e; subst e; exact one mb_split h
  split at h
  · rename_i e; subst e; exact one mb_append h
  split at h
  · rename_i e; subst e; exact one mb_pop h
  split at h
  · rename_i e; subst e; exact one mb_extend h
  split at h
  · rename_i e; subst e; exact one mb_index h
  cases h
end Pc

set_option Elab.async false
set_option linter.all false
set_option maxRecDepth 100000
set_option maxHeartbeats 1000000
set_option autoImplicit false
/-! Pc14: dict displays, stores -/
namespace Pc
open PySem PySem.Spec PyProof.Rows L2

section
variable {κ : Type} [DecidableEq κ]
def repD : List κ → List D → κ → D → List D
  | k' :: ks, d' :: ds, k, d => (if k' = k then d else d') :: repD ks ds k d
  | _, ds, _, _ => ds
def putD (ks : List κ) (ds : List D) (k : κ) (d : D) : List κ × List D := if k ∈ ks then (ks, repD ks ds k d) else (ks ++ [k], ds ++ [d])
theorem rep_rel {K : PySem.W.Frag} {F : Hp} {io : List Addr} {k : κ} {d : D} {v : V} (r : Rel K F io d v) : ∀ {kvs : List (κ × V)} {ds : List D}, RelL K F io ds (kvs.map (·.2)) →
    RelL K F io (repD (kvs.map (·.1)) ds k d) ((kvs.map fun kv => if kv.1 = k then (kv.1, v) else kv).map (·.2))
  | [], ds, h => by
    cases ds with
    | nil => rfl
    | cons d ds => obtain ⟨_, _, e, _⟩ := (show ∃ v r, [] = v :: r ∧ Rel K F io d v ∧ RelL K F io ds r from h); cases e
  | p :: kvs, [], h => by cases (show (p :: kvs).map (·.2) = [] from h)
  | p :: kvs, d' :: ds, h => by
    obtain ⟨v', r', e, h1, h2⟩ := (show ∃ v r, (p :: kvs).map (·.2) = v :: r ∧ Rel K F io d' v ∧ RelL K F io ds r from h)
    rw [List.map_cons] at e
    injection e with e1 e2
    subst e1 e2
    rw [List.map_cons, List.map_cons, List.map_cons, repD]
    by_cases hk : p.1 = k
    · rw [if_pos hk, if_pos hk]
      exact ⟨_, _, rfl, r, rep_rel r h2⟩
    · rw [if_neg hk, if_neg hk]
      exact ⟨_, _, rfl, h1, rep_rel r h2⟩
theorem put_rel {K : PySem.W.Frag} {F : Hp} {io : List Addr} {k : κ} {d : D} {v : V} (r : Rel K F io d v) {kvs : List (κ × V)} {ks : List κ} {ds : List D} (e : kvs.map (·.1) = ks) (h : RelL K F io ds (kvs.map (·.2))) :
    (putK kvs k v).map (·.1) = (putD ks ds k d).1 ∧ RelL K F io (putD ks ds k d).2 ((putK kvs k v).map (·.2)) := by
  subst e
  unfold putK putD
  have hm : ((kvs.any fun kv => decide (kv.1 = k)) = true) ↔ k ∈ kvs.map (·.1) := by
    rw [List.any_eq_true]
    constructor
    · rintro ⟨p, hp, e⟩
      rw [← of_decide_eq_true e]
      exact List.mem_map_of_mem hp
    · intro h
      obtain ⟨p, hp, e⟩ := List.mem_map.mp h
      exact ⟨p, hp, decide_eq_true e⟩
  by_cases hk : k ∈ kvs.map (·.1)
  · rw [if_pos (hm.mpr hk), if_pos hk]
    refine ⟨?_, rep_rel r h⟩
    rw [List.map_map]
    refine List.map_congr_left fun p hp => ?_
    show (if p.1 = k then (p.1, v) else p).1 = p.1
    split <;> rfl
  · rw [if_neg (fun z => hk (hm.mp z)), if_neg hk, List.map_append, List.map_append]
    exact ⟨rfl, h.append ⟨v, [], rfl, r, rfl⟩⟩
end
/-! ### displays -/
def mPairs : List (ME × ME) → Sl → Mem → R (List (D × D))
  | [], _, M => .ok [] M
  | (a, b) :: r, env, M => (mD a env M).bind fun k M1 => (mD b env M1).bind fun v M2 => (mPairs r env M2).bind fun ps M3 => .ok ((k, v) :: ps) M3
def RelP (K : PySem.W.Frag) (F : Hp) (io : List Addr) : List (D × D) → List (V × V) → Prop
  | [], us => us = []
  | (a, b) :: r, us => ∃ x y t, us = (x, y) :: t ∧ Rel K F io a x ∧ Rel K F io b y ∧ RelP K F io r t
def PostPs (K : PySem.W.Frag) (W : WX) (F : Hp) (io : List Addr) (H : Hp) (σ : St) (Q : List (V × V) → Hp → Prop) : R (List (D × D)) → Prop
  | .ok ds M' => ∀ F' io' H' vs, HA K F' io' H' M' → Ex F io H F' io' H' → RelP K F' io' ds vs → Q vs H'
  | .exc c ns ds M' => ∀ F' io' H' dd, HA K F' io' H' M' → Ex F io H F' io' H' → ExcAt K F' io' H H' ns ds dd → W (.ref (He.ga K c)) (some dd) σ H'
  | .stuck => False
section
variable {K : PySem.W.Frag} {W : WX} {σ : St}
theorem PostPs.from_ {F H F1 H1 : Hp} {io io1 : List Addr} {Q : List (V × V) → Hp → Prop} {r : R (List (D × D))} (x : Ex F io H F1 io1 H1) (h : PostPs K W F io H σ Q r) : PostPs K W F1 io1 H1 σ Q r := by
  cases r with
  | ok rv M' => exact fun F' io' H' v a b c => h F' io' H' v a (x.trans b) c
  | exc c ns ds M' => exact fun F' io' H' dd a b c => h F' io' H' dd a (x.trans b) (c.from_ x)
  | stuck => exact h
theorem tP_bind {m : MD} {k : D → Mem → R (List (D × D))} {Q : List (V × V) → Hp → Prop} {F H : Hp} {io : List Addr} {env : Sl} {M : Mem} (ha : HA K F io H M) (er : ER K F io σ env) (p : PostPs K W F io H σ Q ((m env M).bind k)) :
    tD K W m σ H fun x H1 => ∃ d M1 F1 io1, HA K F1 io1 H1 M1 ∧ Ex F io H F1 io1 H1 ∧ Rel K F1 io1 d x ∧ PostPs K W F1 io1 H1 σ Q (k d M1) := by
  refine ⟨F, io, env, M, ha, er, ?_⟩
  cases q : m env M with
  | stuck => rw [q] at p; exact p
  | exc c ns ds M' => rw [q] at p; exact p
  | ok d M1 =>
    rw [q] at p
    intro F1 io1 H1 x a b c
    exact ⟨d, M1, F1, io1, a, b, c, PostPs.from_ b p⟩
/-- the pairs, one behind the other -/
theorem tPairs_of {env : Sl} : ∀ (l : List (ME × ME)) {F H : Hp} {io : List Addr} {M : Mem} (Q : List (V × V) → Hp → Prop), HA K F io H M → ER K F io σ env → PostPs K W F io H σ Q (mPairs l env M) →
    tPairs (l.map fun p => (tD K W (mD p.1), tD K W (mD p.2))) σ H Q
  | [], F, H, io, M, Q, ha, er, p => p F io H [] ha .refl rfl
  | (a, b) :: r, F, H, io, M, Q, ha, er, p => by
    refine PE_t_mono (tP_bind (k := fun k M1 => (mD b env M1).bind fun v M2 => (mPairs r env M2).bind fun ps M3 => .ok ((k, v) :: ps) M3) ha er p) fun x H1 ⟨d, M1, F1, io1, a1, e1, r1, p1⟩ => ?_
    refine PE_t_mono (tP_bind (k := fun v M2 => (mPairs r env M2).bind fun ps M3 => .ok ((d, v) :: ps) M3) a1 (er.mono e1.sub e1.ids) p1) fun y H2 ⟨d2, M2, F2, io2, a2, e2, r2, p2⟩ => ?_
    refine tPairs_of r _ a2 (er.mono (e1.trans e2).sub (e1.trans e2).ids) ?_
    cases q : mPairs r env M2 with
    | stuck => rw [q] at p2; exact p2
    | exc c ns ds M' => rw [q] at p2; exact p2
    | ok ps M3 =>
      rw [q] at p2
      intro F3 io3 H3 vs a3 e3 r3
      exact p2 F3 io3 H3 _ a3 e3 ⟨x, y, vs, rfl, Rel.mono (e2.trans e3).sub (e2.trans e3).ids _ _ r1, Rel.mono e3.sub e3.ids _ _ r2, r3⟩
def keyPs : List (D × D) → Option (List Key × List D)
  | [] => some ([], [])
  | (k, v) :: r => match k.key, keyPs r with
    | some j, some (ks, ds) => some (j :: ks, v :: ds)
    | _, _ => none
def mergeD : List Key → List D → List Key → List D → List Key × List D
  | ks, ds, k :: ks', d :: ds' => mergeD (putD ks ds k d).1 (putD ks ds k d).2 ks' ds'
  | ks, ds, _, _ => (ks, ds)
def mDict (l : List (ME × ME)) : ME := fun env M => (mPairs l env M).bind fun ps M1 => match keyPs ps with
  | some (ks, ds) => if ps.length ≤ 15 then .ok (.own (.dk (mergeD [] [] ks ds).1 (mergeD [] [] ks ds).2)) M1 else .stuck
  | none => .stuck
theorem keyPs_rel {F : Hp} {io : List Addr} : ∀ {ps : List (D × D)} {vs : List (V × V)} {ks : List Key} {ds : List D}, RelP K F io ps vs → keyPs ps = some (ks, ds) →
    ∃ kvs : List (Key × V), vs = kvs.map (fun kv => (kV kv.1, kv.2)) ∧ kvs.map (·.1) = ks ∧ RelL K F io ds (kvs.map (·.2)) ∧ kvs.length = ps.length
  | [], vs, ks, ds, r, e => by cases e; exact ⟨[], r, rfl, rfl, rfl⟩
  | (k, v) :: ps, vs, ks, ds, r, e => by
    obtain ⟨x, y, t, rfl, r1, r2, r3⟩ := (show ∃ x y t, vs = (x, y) :: t ∧ Rel K F io k x ∧ Rel K F io v y ∧ RelP K F io ps t from r)
    unfold keyPs at e
    split at e
    · rename_i j ks' ds' e1 e2
      cases e
      obtain ⟨kvs, h1, h2, h3, h4⟩ := keyPs_rel r3 e2
      refine ⟨(j, y) :: kvs, ?_, ?_, ⟨y, _, rfl, r2, h3⟩, by rw [List.length_cons, List.length_cons, h4]⟩
      · rw [key_rel r1 e1, h1]; rfl
      · rw [List.map_cons, h2]
    · cases e
theorem merge_rel {F : Hp} {io : List Addr} : ∀ {more : List (Key × V)} {ks' : List Key} {ds' : List D} {kvs : List (Key × V)} {ks : List Key} {ds : List D}, more.map (·.1) = ks' → RelL K F io ds' (more.map (·.2)) → kvs.map (·.1) = ks → RelL K F io ds (kvs.map (·.2)) →
    (mergeK kvs more).map (·.1) = (mergeD ks ds ks' ds').1 ∧ RelL K F io (mergeD ks ds ks' ds').2 ((mergeK kvs more).map (·.2))
  | [], ks', ds', kvs, ks, ds, e1, r1, e2, r2 => by
    cases e1
    cases ds' <;> exact ⟨e2, r2⟩
  | p :: more, ks', ds', kvs, ks, ds, e1, r1, e2, r2 => by
    cases e1
    cases ds' with
    | nil => cases (show (p :: more).map (·.2) = [] from r1)
    | cons d ds' =>
      obtain ⟨v', r', e, h1, h2⟩ := (show ∃ v r, (p :: more).map (·.2) = v :: r ∧ Rel K F io d v ∧ RelL K F io ds' r from r1)
      rw [List.map_cons] at e
      injection e with e3 e4
      subst e3 e4
      obtain ⟨g1, g2⟩ := put_rel (k := p.1) h1 e2 r2
      have z := merge_rel (more := more) (ks' := more.map (·.1)) (ds' := ds') rfl h2 g1 g2
      exact z
end
section
variable {X : Cx} {W : WX} {pos : Pos}
inductive PMs (X : Cx) (W : WX) : List (Option Expr) → List Expr → List (ME × ME) → Prop where
  | nil : PMs X W [] [] []
  | cons {k v : Expr} {ks : List (Option Expr)} {vs : List Expr} {a b : ME} {l : List (ME × ME)} (hk : PE X k (tE X.K W a)) (hv : PE X v (tE X.K W b)) (hr : PMs X W ks vs l) : PMs X W (some k :: ks) (v :: vs) ((a, b) :: l)
theorem PMs.pps {ks : List (Option Expr)} {vs : List Expr} {l : List (ME × ME)} (h : PMs X W ks vs l) : PPs X pos ks vs (l.map fun p => (tD X.K W (mD p.1), tD X.K W (mD p.2))) := by
  induction h with
  | nil => exact pps_nil
  | cons hk hv hr ih => exact pps_cons (pe_d hk) (pe_d hv) ih
theorem PMs.all {ks : List (Option Expr)} {vs : List Expr} {l : List (ME × ME)} (h : PMs X W ks vs l) : ks.all (·.isSome) = true ∧ ks.length = vs.length := by
  induction h with
  | nil => exact ⟨rfl, rfl⟩
  | cons hk hv hr ih => exact ⟨by rw [List.all_cons, ih.1]; rfl, by rw [List.length_cons, List.length_cons, ih.2]⟩
theorem pm_dict {ks : List (Option Expr)} {vs : List Expr} {l : List (ME × ME)} (h : PMs X W ks vs l) (h0 : ks ≠ []) (h15 : ks.length ≤ 15) : PE X (.Dict ks vs pos) (tE X.K W (mDict l)) := PE.imp' (pe_disp h.pps h.all.1 h.all.2 h0 h15) fun σ H Q ⟨F, io, env, M, ha, er, p⟩ => by
  intro a hn
  refine tPairs_of l _ (ha.new (o := .dK []) hn) er ?_
  have x0 : Ex F io H F io (upd H a (.dK [])) := Ex.new ha hn
  have fa := ha.fnone hn
  have na := ha.notin hn
  unfold mDict at p
  cases q : mPairs l env M with
  | stuck => rw [q] at p; exact p
  | exc c ns ds M' => rw [q] at p; exact fun F' io' H' dd a b c => p F' io' H' dd a (x0.trans b) (c.from_ x0)
  | ok ps M1 =>
    rw [q] at p
    intro F1 io1 H1 vs a1 e1 r1
    obtain ⟨hd1, fd1, id1⟩ := e1.alone upd_same fa na
    refine ⟨hd1, ?_⟩
    dsimp only [R.bind] at p
    split at p
    · rename_i ks ds hk
      obtain ⟨kvs, g1, g2, g3, g4⟩ := keyPs_rel r1 hk
      split at p
      · rename_i hl
        refine ⟨kvs, g1, by rw [g4]; exact hl, ?_⟩
        obtain ⟨m1, m2⟩ := merge_rel g2 g3 (kvs := []) (ks := []) (ds := []) rfl rfl
        exact p F1 io1 _ _ (a1.poke fd1 id1) (Ex.poke (x0.trans e1) hn) ⟨a, rfl, hn, fd1, id1, _, upd_same, m1, m2⟩
      · exact p.elim
    · exact p.elim
def mDNew (t : Bool) : ME := fun _ M => .ok (.own (if t then .dt [] [] else .dk [] [])) M
theorem pm_dnew {t : Bool} : PE X (.Dict [] [] pos) (tE X.K W (mDNew t)) := by
  cases t with
  | true => exact PE.imp' pe_dnewT fun σ H Q ⟨F, io, env, M, ha, er, p⟩ a hn => post_own p ha hn ⟨[], upd_same, rfl, rfl⟩
  | false => exact PE.imp' pe_dnewK fun σ H Q ⟨F, io, env, M, ha, er, p⟩ a hn => post_own p ha hn ⟨[], upd_same, rfl, rfl⟩
end

/-! ### stores -/
def setS (d i v : D) (M : Mem) : Option Mem := match d with
  | .ref n => (match M[n]? with
    | some (.lst xs) => (match i with
      | .int k => (match ixN xs.length k with
        | some j => some (M.set n (.lst (xs.set j v)))
        | none => none)
      | _ => none)
    | some (.dk ks ds) => (match i.key with
      | some k => if ks.length < sizeLine then some (M.set n (.dk (putD ks ds k v).1 (putD ks ds k v).2)) else none
      | none => none)
    | some (.dt ks ds) => (match i.keyT with
      | some k => if ks.length < sizeLine then some (M.set n (.dt (putD ks ds k v).1 (putD ks ds k v).2)) else none
      | none => none)
    | _ => none)
  | _ => none
/-- what is asked of a store by values -/
def rSet (K : PySem.W.Frag) : TSet := fun o i v H Q => ∃ F io M d1 d2 d3 M', HA K F io H M ∧ Rel K F io d1 o ∧ Rel K F io d2 i ∧ Rel K F io d3 v ∧ setS d1 d2 d3 M = some M' ∧ ∀ F' io' H', HA K F' io' H' M' → Ex F io H F' io' H' → Q H'
section
variable {X : Cx}
theorem set_any (hu : X.A.units + 1 < cLine) : PSet X (rSet X.K) := by
  rintro pins s σ H o i v ov iv u Q I ro ri rv ⟨F, io, M, d1, d2, d3, M', ha, r1, r2, r3, e, q⟩
  unfold setS at e
  split at e
  · rename_i n
    obtain ⟨a, eo, hi⟩ := (show ∃ a, o = V.ref a ∧ io[n]? = some a from r1)
    subst eo
    split at e
    · rename_i xs hM
      obtain ⟨b, e1, e2, vs, e3, e4⟩ := ha.at_ n _ hM
      rw [hi] at e1
      cases e1
      split at e
      · rename_i k
        obtain rfl : i = V.int k := r2
        split at e
        · rename_i j hj
          cases e
          have mr : MR X.K F io (upd H a (.lst (vs.set j v))) a (.lst (xs.set j d3)) := ⟨_, upd_same, RelL.set j e4 r3⟩
          obtain ⟨h1, h2⟩ := ha.write hi mr
          exact set_list pins s σ H _ _ v ov iv u Q I ro ri rv ⟨a, vs, k, j, rfl, rfl, e3, by rw [← e4.length]; exact hj, q F io _ h1 h2⟩
        · cases e
      · cases e
    · rename_i ks ds hM
      obtain ⟨b, e1, e2, kvs, e3, e4, e5⟩ := ha.at_ n _ hM
      rw [hi] at e1
      cases e1
      split at e
      · rename_i k hk
        split at e
        · rename_i hl
          cases e
          obtain ⟨g1, g2⟩ := put_rel (k := k) r3 e4 e5
          have mr : MR X.K F io (upd H a (.dK (putK kvs k v))) a (.dk (putD ks ds k d3).1 (putD ks ds k d3).2) := ⟨_, upd_same, g1, g2⟩
          obtain ⟨h1, h2⟩ := ha.write hi mr
          have ei := key_rel r2 hk
          subst ei
          cases ro
          exact d_setItem hu I (DPut.k e3 (by rw [← List.length_map (f := (·.1)), e4]; exact hl)) ri rv fun s' I' => ⟨_, I', q F io _ h1 h2⟩
        · cases e
      · cases e
    · rename_i ks ds hM
      obtain ⟨b, e1, e2, kvs, e3, e4, e5⟩ := ha.at_ n _ hM
      rw [hi] at e1
      cases e1
      split at e
      · rename_i k hk
        split at e
        · rename_i hl
          cases e
          obtain ⟨g1, g2⟩ := put_rel (k := k) r3 e4 e5
          have mr : MR X.K F io (upd H a (.dT (putK kvs k v))) a (.dt (putD ks ds k d3).1 (putD ks ds k d3).2) := ⟨_, upd_same, g1, g2⟩
          obtain ⟨h1, h2⟩ := ha.write hi mr
          obtain ⟨b, ei, hb⟩ := ha.keyT r2 hk
          subst ei
          cases ro
          exact d_setItem hu I (DPut.t e3 hb (by rw [← List.length_map (f := (·.1)), e4]; exact hl)) ri rv fun s' I' => ⟨_, I', q F io _ h1 h2⟩
        · cases e
      · cases e
    · cases e
  · cases e
end
/-- o[i] = e -/
def mSub (mu : Bool) (me mo mi : ME) : MS := fun env M => (mA mu me env M).toS env fun v M1 => (mD mo env M1).toS env fun o M2 => (mD mi env M2).toS env fun i M3 => match setS o i v M3 with
  | some M4 => .nx env M4
  | none => .stuck
section
variable {X : Cx} {W : WX} {o i value : Expr} {pos pos' : Pos} {mo mi me : ME} {mu : Bool}
theorem tS_bind {K : PySem.W.Frag} {σ : St} {D : Ends} {m : MD} {k : Pc.D → Mem → RS} {F H : Hp} {io : List Addr} {env : Sl} {M : Mem} (ha : HA K F io H M) (er : ER K F io σ env) (p : PostS K W F io H D ((m env M).toS env k)) :
    tD K W m σ H fun x H1 => ∃ d M1 F1 io1, HA K F1 io1 H1 M1 ∧ Ex F io H F1 io1 H1 ∧ Rel K F1 io1 d x ∧ PostS K W F1 io1 H1 D (k d M1) := by
  refine ⟨F, io, env, M, ha, er, ?_⟩
  cases q : m env M with
  | stuck => rw [q] at p; exact p
  | exc c ns ds M' => rw [q] at p; exact fun F' io' H' dd a b c => p F' io' H' dd σ a b (er.mono b.sub b.ids) c
  | ok d M1 =>
    rw [q] at p
    intro F1 io1 H1 x a b c
    exact ⟨d, M1, F1, io1, a, b, c, PostS.from_ b p⟩
theorem sm_sub (hu : X.A.units + 1 < cLine) (hv : PE X value (tE X.K W me)) (ho : PE X o (tE X.K W mo)) (hi : PE X i (tE X.K W mi)) (hs : swapsWith value (some (.Subscript o i pos')) pos.line X.env = pure false) :
    PS X (.Assign [.Subscript o i pos'] value pos) (tS X.K W (mSub mu me mo mi)) := by
  refine ⟨fun pins s σ H D I ⟨F, io, env, M, ha, er, p⟩ => ?_⟩
  refine wpAny_Assign_Subscript (thn ((pe_a mu hv).run pins s σ H _ I (tS_bind (k := fun v M1 => (mD mo env M1).toS env fun o M2 => (mD mi env M2).toS env fun i M3 => match setS o i v M3 with
    | some M4 => .nx env M4
    | none => .stuck) ha er p)) fun r s1 ⟨v, H1, I1, rv, d1, M1, F1, io1, a1, x1, r1, p1⟩ => ?_) hs
  refine thn ((pe_d ho).run pins s1 σ H1 _ I1 (tS_bind (k := fun o M2 => (mD mi env M2).toS env fun i M3 => match setS o i d1 M3 with
    | some M4 => .nx env M4
    | none => .stuck) a1 (er.mono x1.sub x1.ids) p1)) fun u s2 ⟨x, H2, I2, rx, d2, M2, F2, io2, a2, x2, r2, p2⟩ => ?_
  refine thn ((pe_d hi).run pins s2 σ H2 _ I2 (tS_bind (k := fun i M3 => match setS d2 i d1 M3 with
    | some M4 => .nx env M4
    | none => .stuck) a2 (er.mono (x1.trans x2).sub (x1.trans x2).ids) p2)) fun iv s3 ⟨y, H3, I3, ry, d3, M3, F3, io3, a3, x3, r3, p3⟩ => ?_
  cases q : setS d2 d3 d1 M3 with
  | none => rw [q] at p3; exact p3.elim
  | some M4 =>
    rw [q] at p3
    have x23 := x2.trans x3
    refine thn (set_any hu pins s3 σ H3 x y v u iv r (fun H' => D.nx σ H') I3 rx ry rv ⟨F3, io3, M3, d2, d3, d1, M4, a3, Rel.mono x3.sub x3.ids _ _ r2, r3, Rel.mono x23.sub x23.ids _ _ r1, q, fun F' io' H' a b => ?_⟩) fun _ s4 ⟨H4, I4, q4⟩ => ⟨σ, H4, I4, q4⟩
    have xx := (x1.trans x23).trans b
    exact p3 F' io' H' σ a b (er.mono xx.sub xx.ids)
end
end Pc

set_option Elab.async false
set_option linter.all false
set_option maxRecDepth 100000
set_option maxHeartbeats 1000000
set_option autoImplicit false
/-! Pc15: attributes, tuple targets, augmented assignments, f-strings -/
namespace Pc
open PySem PySem.Spec PyProof.Rows L2

/-! ### which stores CPython swaps -/
def isNm (sc : Scope) (line : Nat) : Expr → Option Str
  | .Name id pos => if sc.names.lookup id == some .local && pos.line == line then some id else none
  | _ => none
/-- none: not known -/
def swO (sc : Scope) (ts vs : List Expr) : Option (Option (List Str)) :=
  if !(ts.length == 2 || ts.length == 3) || vs.length != ts.length then some none
  else if !vs.all noStar then some none else
    let names := ts.filterMap (isNm sc ((ts.head?.map (·.pos.line)).getD 0))
    if names.length != ts.length || names.eraseDups.length != names.length then some none
    else if vs.all (foldedForSure 8) then some none
    else if vs.all (constantsAlone 8) then none else some (some names)
theorem sw_eq {env : PySem.Env} {ts vs : List Expr} {k k2 : Nat} {p p2 : Pos} {r : Option (List Str)} (hk : env.scope.kind = .function) (h : swO env.scope ts vs = some r) : swappedStores [.Tuple ts k p] (.Tuple vs k2 p2) env = pure r := by
  have hb : env.blockKind = .function := by unfold Env.blockKind; rw [hk]; rfl
  have hst : ∀ l : List Expr, (l.any fun | .Starred .. => true | _ => false) = !l.all noStar := fun l => by
    induction l with
    | nil => rfl
    | cons v l ih =>
      rw [List.any_cons, ih, List.all_cons]
      cases v <;> simp [noStar]
  have hnm : (fun e : Expr => match e with
    | .Name id pos => if env.kindOf id == some .local && pos.line == (ts.head?.map (·.pos.line)).getD 0 then some id else none
    | _ => none) = isNm env.scope ((ts.head?.map (·.pos.line)).getD 0) := by
    funext e
    cases e <;> rfl
  have e0 : swappedStores [.Tuple ts k p] (.Tuple vs k2 p2) env = (if (!(ts.length == 2 || ts.length == 3) || vs.length != ts.length || env.blockKind != .function) = true then pure none else
    if (vs.any fun | .Starred .. => true | _ => false) = true then pure none else
    if ((ts.filterMap fun e : Expr => match e with
      | .Name id pos => if env.kindOf id == some .local && pos.line == (ts.head?.map (·.pos.line)).getD 0 then some id else none
      | _ => none).length != ts.length || (ts.filterMap fun e : Expr => match e with
      | .Name id pos => if env.kindOf id == some .local && pos.line == (ts.head?.map (·.pos.line)).getD 0 then some id else none
      | _ => none).eraseDups.length != (ts.filterMap fun e : Expr => match e with
      | .Name id pos => if env.kindOf id == some .local && pos.line == (ts.head?.map (·.pos.line)).getD 0 then some id else none
      | _ => none).length) = true then pure none else
    if vs.all (foldedForSure 8) = true then pure none else
    if vs.all (constantsAlone 8) = true then (do unsupported "assign.tuple-of-constant-expressions:order-of-the-stores"; pure (some (ts.filterMap fun e : Expr => match e with
      | .Name id pos => if env.kindOf id == some .local && pos.line == (ts.head?.map (·.pos.line)).getD 0 then some id else none
      | _ => none))) else pure (some (ts.filterMap fun e : Expr => match e with
      | .Name id pos => if env.kindOf id == some .local && pos.line == (ts.head?.map (·.pos.line)).getD 0 then some id else none
      | _ => none))) := rfl
  rw [e0, hb, hst, hnm]
  unfold swO at h
  have e1 : (ScopeKind.function != ScopeKind.function) = false := rfl
  rw [e1, Bool.or_false]
  by_cases c1 : (!(ts.length == 2 || ts.length == 3) || vs.length != ts.length) = true
  · rw [if_pos c1] at h
    cases h
    rw [if_pos c1]
  rw [if_neg c1] at h ⊢
  by_cases c2 : (!vs.all noStar) = true
  · rw [if_pos c2] at h
    cases h
    rw [if_pos c2]
  rw [if_neg c2] at h ⊢
  dsimp only at h
  split at h
  · rename_i c3
    cases h
    rw [if_pos c3]
  · rename_i c3
    rw [if_neg c3]
    split at h
    · rename_i c4
      cases h
      rw [if_pos c4]
    · rename_i c4
      rw [if_neg c4]
      split at h
      · cases h
      · rename_i c5
        rw [if_neg c5]
        cases h
        rfl
theorem sw_one {env : PySem.Env} {ts : List Expr} {e : Expr} {k : Nat} {p : Pos} (h : (match e with | .Tuple .. => false | _ => true) = true) : swappedStores [.Tuple ts k p] e env = pure none := by
  cases e <;> first | rfl | cases h
/-! ### comprehensions that stand alone at a store -/
def noComp : Expr → Bool
  | .ListComp .. => false
  | .SetComp .. => false
  | .DictComp .. => false
  | _ => true
theorem sw_no {e : Expr} (h : noComp e = true) (t : Option Expr) (l : Nat) (env : PySem.Env) : swapsWith e t l env = pure false := by
  cases e <;> first | rfl | cases h
def notNm : Expr → Bool
  | .Name .. => false
  | _ => true
theorem sw_tg {e t : Expr} (h : notNm t = true) (l : Nat) (env : PySem.Env) : swapsWith e (some t) l env = pure false := by
  cases e <;> first | rfl | (cases t <;> first | rfl | cases h)
def swB (sc scope : Scope) (t : Str) (p pv : Pos) : Bool := sc.names.lookup t == some .local && p.line == pv.line && !(scope.names.any fun (n, k) => n == t && (k == .local || k == .cell))
theorem sw_lc {elt : Expr} {gs : List Comprehension} {scope : Scope} {pv p : Pos} {t : Str} {l : Nat} {env : PySem.Env} (hk : env.scope.kind = .function) : swapsWith (.ListComp elt gs scope pv) (some (.Name t p)) l env = pure (swB env.scope scope t p pv) := by
  have hb : env.blockKind = .function := by unfold Env.blockKind; rw [hk]; rfl
  unfold swapsWith swB
  simp only [hb, Expr.pos]
  rfl

/-! ### a, b = x, y -/
def mPar (is : List Nat) (ms : MDs) : MS := fun env M => (ms env M).toS env fun ds M1 => if ds.length = is.length then .nx (putE env (is.zip ds)) M1 else .stuck
section
variable {X : Cx} {W : WX} {pos : Pos}
theorem zip_relB {K : PySem.W.Frag} {F : Hp} {io : List Addr} : ∀ {is : List Nat} {ds : List D} {vs : List V}, RelL K F io ds vs → RelB K F io (is.zip ds) (is.zip vs)
  | [], _, _, _ => rfl
  | i :: is, [], vs, h => by rw [show vs = [] from h]; exact rfl
  | i :: is, d :: ds, vs, h => by
    obtain ⟨v, r, rfl, h1, h2⟩ := (show ∃ v r, vs = v :: r ∧ Rel K F io d v ∧ RelL K F io ds r from h)
    exact ⟨v, is.zip r, rfl, h1, zip_relB h2⟩
theorem sm_par2 {i j : Nat} {x y : Str} {a b : Expr} {ms : MDs} {px py pt : Pos} {kt k2 pt2} (hc : X.calm = true) (hN : X.N.Nodup) (hi : X.N[i]? = some x) (hj : X.N[j]? = some y) (hij : i ≠ j)
    (hx : X.env.scope.names.lookup x = some .local) (hy : X.env.scope.names.lookup y = some .local) (ha : PA X [a, b] (tDs X.K W ms))
    (hw : swappedStores [.Tuple [.Name x px, .Name y py] kt pt] (.Tuple [a, b] k2 pt2) X.env = pure (some [x, y])) :
    PS X (.Assign [.Tuple [.Name x px, .Name y py] kt pt] (.Tuple [a, b] k2 pt2) pos) (tS X.K W (mPar [i, j] ms)) := PS.imp' (ps_par hc hN hi hj hij hx hy ha hw rfl) fun D σ H h => by
  refine tDs_mono (tS_tDs (k := fun env ds M1 => if ds.length = 2 then .nx (putE env ([i, j].zip ds)) M1 else .stuck) h) fun vs H1 ⟨ds, M1, F1, io1, env, a1, er, rl, p⟩ => ?_
  split at p
  · rename_i hl
    obtain ⟨d1, d2, rfl⟩ : ∃ d1 d2, ds = [d1, d2] := by
      cases ds with
      | nil => cases hl
      | cons d1 ds => cases ds with
        | nil => cases hl
        | cons d2 ds => cases ds with
          | nil => exact ⟨d1, d2, rfl⟩
          | cons _ _ => simp at hl
    obtain ⟨v, u, rfl, h1, h2⟩ := relL2 rl
    exact ⟨v, u, rfl, p F1 io1 H1 _ a1 .refl (ER.puts (us := [(i, v), (j, u)]) er (zip_relB (is := [i, j]) rl))⟩
  · exact p.elim
theorem sm_par3 {i j l : Nat} {x y z : Str} {a b c : Expr} {ms : MDs} {px py pz pt : Pos} {kt k2 pt2} (hc : X.calm = true) (hN : X.N.Nodup) (hi : X.N[i]? = some x) (hj : X.N[j]? = some y) (hl : X.N[l]? = some z) (hij : i ≠ j) (hil : i ≠ l) (hjl : j ≠ l)
    (hx : X.env.scope.names.lookup x = some .local) (hy : X.env.scope.names.lookup y = some .local) (hz : X.env.scope.names.lookup z = some .local) (ha : PA X [a, b, c] (tDs X.K W ms))
    (hw : swappedStores [.Tuple [.Name x px, .Name y py, .Name z pz] kt pt] (.Tuple [a, b, c] k2 pt2) X.env = pure (some [x, y, z])) :
    PS X (.Assign [.Tuple [.Name x px, .Name y py, .Name z pz] kt pt] (.Tuple [a, b, c] k2 pt2) pos) (tS X.K W (mPar [i, j, l] ms)) := PS.imp' (ps_par3 hc hN hi hj hl hij hil hjl hx hy hz ha hw rfl) fun D σ H h => by
  refine tDs_mono (tS_tDs (k := fun env ds M1 => if ds.length = 3 then .nx (putE env ([i, j, l].zip ds)) M1 else .stuck) h) fun vs H1 ⟨ds, M1, F1, io1, env, a1, er, rl, p⟩ => ?_
  split at p
  · rename_i hl
    obtain ⟨d1, d2, d3, rfl⟩ : ∃ d1 d2 d3, ds = [d1, d2, d3] := by
      cases ds with
      | nil => cases hl
      | cons d1 ds => cases ds with
        | nil => cases hl
        | cons d2 ds => cases ds with
          | nil => cases hl
          | cons d3 ds => cases ds with
            | nil => exact ⟨d1, d2, d3, rfl⟩
            | cons _ _ => simp at hl
    obtain ⟨v, t, rfl, h1, h2⟩ := (show ∃ v t, vs = v :: t ∧ Rel X.K F1 io1 d1 v ∧ RelL X.K F1 io1 [d2, d3] t from rl)
    obtain ⟨u, w, rfl, h3, h4⟩ := relL2 h2
    exact ⟨v, u, w, rfl, p F1 io1 H1 _ a1 .refl (ER.puts (us := [(i, v), (j, u), (l, w)]) er (zip_relB (is := [i, j, l]) rl))⟩
  · exact p.elim
/-- a target of any form -/
def mAsg (g : MG) (m : ME) : MS := fun env M => (mD m env M).toS env fun d M1 => match g d with
  | some bs => .nx (putE env bs) M1
  | none => .stuck
theorem sm_asg {tg e : Expr} {g : MG} {m : ME} (h : PE X e (tE X.K W m)) (hg : PG X tg (tG X.K g)) (hs : swapsWithSole [tg] e pos.line X.env = pure false) (hw : swappedStores [tg] e X.env = pure none) (hn : noStar tg = true) :
    PS X (.Assign [tg] e pos) (tS X.K W (mAsg g m)) := PS.imp' (ps_asg (pe_d h) hg hs hw (by rw [each_cons hn]; rfl)) fun D σ H h => by
  refine PE_t_mono (tS_tD (k := fun env d M1 => match g d with
    | some bs => .nx (putE env bs) M1
    | none => .stuck) h) fun x H1 ⟨d, M1, F1, io1, env, a, b, c, p⟩ => ?_
  cases q : g d with
  | none => rw [q] at p; exact p.elim
  | some bs =>
    rw [q] at p
    exact ⟨F1, io1, M1, d, bs, a, c, q, fun us r => p F1 io1 H1 _ a .refl (b.puts r)⟩
end

/-! ### o.f = e -/
def putN : List Str → List D → Str → D → List Str × List D
  | n :: ns, d :: ds, f, v => if n = f then (n :: ns, v :: ds) else (n :: (putN ns ds f v).1, d :: (putN ns ds f v).2)
  | _, _, f, v => ([f], [v])
theorem putN_rel {K : PySem.W.Frag} {F : Hp} {io : List Addr} {f : Str} {d : D} {v : V} (r : Rel K F io d v) : ∀ {fs : List (Str × V)} {ns : List Str} {ds : List D}, fs.map (·.1) = ns → RelL K F io ds (fs.map (·.2)) →
    (putF f v fs).map (·.1) = (putN ns ds f d).1 ∧ RelL K F io (putN ns ds f d).2 ((putF f v fs).map (·.2))
  | [], ns, ds, e, h => by
    cases e
    cases ds with
    | nil => exact ⟨rfl, v, [], rfl, r, rfl⟩
    | cons d' ds => obtain ⟨_, _, e, _⟩ := (show ∃ v r, [] = v :: r ∧ Rel K F io d' v ∧ RelL K F io ds r from h); cases e
  | (g, x) :: fs, ns, ds, e, h => by
    cases e
    cases ds with
    | nil => cases (show ((g, x) :: fs).map (·.2) = [] from h)
    | cons d' ds =>
      obtain ⟨v', r', e, h1, h2⟩ := (show ∃ v r, ((g, x) :: fs).map (·.2) = v :: r ∧ Rel K F io d' v ∧ RelL K F io ds r from h)
      rw [List.map_cons] at e
      injection e with e1 e2
      subst e1 e2
      rw [putF, List.map_cons, putN]
      by_cases hg : g = f
      · rw [if_pos hg, if_pos hg]
        exact ⟨rfl, v, _, rfl, r, h2⟩
      · rw [if_neg hg, if_neg hg]
        obtain ⟨g1, g2⟩ := putN_rel r (fs := fs) (ns := fs.map (·.1)) (ds := ds) rfl h2
        exact ⟨by rw [List.map_cons, g1], x, _, rfl, h1, g2⟩
def setF (ok : Str → Str → Bool) (f : Str) (d v : D) (M : Mem) : Option Mem := match d with
  | .ref n => (match M[n]? with
    | some (.ins c ns ds) => if ok c f = true ∧ ns.length < 1000 then some (M.set n (.ins c (putN ns ds f v).1 (putN ns ds f v).2)) else none
    | _ => none)
  | _ => none
def mFld (mu : Bool) (ok : Str → Str → Bool) (f : Str) (me mo : ME) : MS := fun env M => (mA mu me env M).toS env fun v M1 => (mD mo env M1).toS env fun o M2 => match setF ok f o v M2 with
  | some M3 => .nx env M3
  | none => .stuck
section
variable {X : Cx} {W : WX} {o value : Expr} {pos pos' : Pos} {mo me : ME} {mu : Bool} {f : Str} {ok : Str → Str → Bool}
theorem sm_fld (hok : ∀ c, ok c f = true → Cls X.K (He.ga X.K c) ∧ NoAttr X.K (He.ga X.K c) f) (hv : PE X value (tE X.K W me)) (ho : PE X o (tE X.K W mo)) (hs : swapsWith value (some (.Attribute o f pos')) pos.line X.env = pure false) :
    PS X (.Assign [.Attribute o f pos'] value pos) (tS X.K W (mFld mu ok f me mo)) := PS.imp' (ps_fld (pe_d ho) (pe_a mu hv) hs) fun D σ H ⟨F, io, env, M, ha, er, p⟩ => by
  refine PE_t_mono (tS_bind (k := fun v M1 => (mD mo env M1).toS env fun o M2 => match setF ok f o v M2 with
    | some M3 => .nx env M3
    | none => .stuck) ha er p) fun y H1 ⟨d1, M1, F1, io1, a1, x1, r1, p1⟩ => ?_
  refine PE_t_mono (tS_bind (k := fun o M2 => match setF ok f o d1 M2 with
    | some M3 => .nx env M3
    | none => .stuck) a1 (er.mono x1.sub x1.ids) p1) fun x H2 ⟨d2, M2, F2, io2, a2, x2, r2, p2⟩ => ?_
  cases q : setF ok f d2 d1 M2 with
  | none => rw [q] at p2; exact p2.elim
  | some M3 =>
    rw [q] at p2
    unfold setF at q
    split at q
    · rename_i n
      obtain ⟨a, eo, hi⟩ := (show ∃ a, x = V.ref a ∧ io2[n]? = some a from r2)
      split at q
      · rename_i c ns ds hM
        obtain ⟨b, e1, e2, dx, fvs, e3, e4, e5⟩ := a2.at_ n _ hM
        rw [hi] at e1
        cases e1
        split at q
        · rename_i hh
          cases q
          obtain ⟨c1, c2⟩ := hok c hh.1
          obtain ⟨g1, g2⟩ := putN_rel (f := f) (Rel.mono x2.sub x2.ids _ _ r1) e4 e5
          have mr : MR X.K F2 io2 (upd H2 a (.ins (He.ga X.K c) dx (putF f y fvs))) a (.ins c (putN ns ds f d1).1 (putN ns ds f d1).2) := ⟨dx, _, upd_same, g1, g2⟩
          obtain ⟨h1, h2⟩ := a2.write hi mr
          have xx := (x1.trans x2).trans h2
          exact ⟨a, _, dx, fvs, eo, e3, c1, c2, by rw [← List.length_map (f := (·.1)), e4]; exact hh.2, p2 F2 io2 _ σ h1 h2 (er.mono xx.sub xx.ids)⟩
        · cases q
      · cases q
    · cases q
end
end Pc

set_option Elab.async false
set_option linter.all false
set_option maxRecDepth 100000
set_option maxHeartbeats 1000000
set_option autoImplicit false
/-! Pc16: the program's text, read -/
namespace Pc
open PySem PySem.Spec PyProof.Rows L2

section
variable {X : Cx} {W : WX}
theorem chain_imp {op op' : CmpOp} {K : PySem.W.Frag} {W : WX} {m1 m2 m3 : ME} {σ : St} {H : Hp} {Q : VK} (h : tE K W (mChain op op' m1 m2 m3) σ H Q) : tChain (rBin K (cmpS op)) (rBin K (cmpS op')) (tD K W (mD m1)) (tD K W (mD m2)) (tD K W (mD m3)) σ H Q := by
    refine tD_then (k := fun d1 env M1 => (mD m2 env M1).bind fun d2 M2 => (cmpS op d1 d2 M2).bind fun rv M3 => match rv with
      | .val (.bl true) => (mD m3 env M3).bind fun d3 M4 => cmpS op' d2 d3 M4
      | .val (.bl false) => vB false M3
      | _ => .stuck) h fun d1 M1 F1 io1 H1 x env a1 er1 r1 p1 => ?_
    refine ⟨F1, io1, env, M1, a1, er1, ?_⟩
    cases q2 : mD m2 env M1 with
    | stuck => rw [q2] at p1; exact p1
    | exc c ns ds M' => rw [q2] at p1; exact p1
    | ok d2 M2 =>
      rw [q2] at p1
      intro F2 io2 H2 y a2 b2 r2
      have p2 := PostE.from_ b2 p1
      dsimp only [R.bind] at p2
      refine ⟨F2, io2, M2, d1, d2, W, σ, a2, Rel.mono b2.sub b2.ids _ _ r1, r2, ?_⟩
      cases q3 : cmpS op d1 d2 M2 with
      | stuck => rw [q3] at p2; exact p2
      | exc c ns ds M' => exact (cmpS_exc q3).elim
      | ok rv M3 =>
        rw [q3] at p2
        obtain ⟨em, k, rfl⟩ := cmpS_mem q3
        subst em
        intro F3 io3 H3 z a3 b3 r3
        have p3 := PostE.from_ b3 p2
        refine ⟨k, r3, ?_⟩
        cases k with
        | false => rw [if_neg Bool.false_ne_true]; exact post_val p3 a3 rfl
        | true =>
          rw [if_pos rfl]
          refine ⟨F3, io3, env, M3, a3, (er1.mono b2.sub b2.ids).mono b3.sub b3.ids, ?_⟩
          dsimp only [R.bind] at p3
          cases q4 : mD m3 env M3 with
          | stuck => rw [q4] at p3; exact p3
          | exc c ns ds M' => rw [q4] at p3; exact p3
          | ok d3 M4 =>
            rw [q4] at p3
            intro F4 io4 H4 w a4 b4 r4
            exact ⟨F4, io4, M4, d2, d3, W, σ, a4, Rel.mono b4.sub b4.ids _ _ (Rel.mono b3.sub b3.ids _ _ r2), r4, PostE.from_ b4 p3⟩
theorem tm_chain {op op' : CmpOp} {a b c : Expr} {m1 m2 m3 : ME} {pos : Pos} (hu : X.A.units + 65 < cLine) (ha : PE X a (tE X.K W m1)) (hb : PE X b (tE X.K W m2)) (hc : PE X c (tE X.K W m3)) (hm : lastMarks [op, op'] [b, c] = false) :
    PT X (.Compare a [op, op'] [b, c] pos) (tT X.K W (mBl (mChain op op' m1 m2 m3))) :=
  PT.imp' (pt_chain (cmp_any hu op) (cmp_any hu op') (pe_d ha) (pe_d hb) (pe_d hc) hm) fun σ H Q h => chain_imp (tE_bl h)
end
end Pc

set_option Elab.async false
set_option linter.all false
set_option maxRecDepth 100000
set_option maxHeartbeats 2000000
set_option autoImplicit false
/-! PcX1: own exceptions whose __init__ says super().__init__(..) -/
namespace Pc
open PySem PySem.Spec PyProof.Rows L2

abbrev veI : String := "ValueError.__init__"
section
variable {X : Cx} {pins : List (Addr × Obj)} {σ : L2.St} {H : Hp} {s : Shared} {a C u : Addr} {E : Value → Shared → Prop} {Q : Value → Shared → Prop} {us : List Value}
/-- ValueError.__init__ bound to the exception that is being made -/
theorem mwinit_ok (T : OexC X.K C) (I : Inv X pins σ H s) (hu : s.heap.get? u = some (PySem.W.kxs_mw veI a)) (e : H a = some (exo a C none)) (hl : us.length ≤ sizeLine) (h : ∀ s', Inv X pins σ H s' → Q .none s') :
    wpAny (model X.prog X.w) X.A (call (.ref u) us) Q E s := by
  obtain ⟨nm, q, N, bs, bm, sn, sub, ab, col, dd, k0, k1, k2, k3, k5, hC, hbm⟩ := T.cls
  obtain ⟨t1, ho⟩ := exo_at I.hok e
  have hC' := I.kIn _ _ hC
  have fin : ∀ h' : Heap, (∀ b o, b ≠ a → s.heap.get? b = some o → h'.get? b = some o) → h'.get? a = some (PySem.W.excRec (.ref C) s.heap.objs.size none .none .none (.bool false)) → Q .none { s with heap := h' } := fun h' k hx => by
    have J := I.write (t' := s.toks) (x := a) (e := a) (o := exo a C none) (by rw [e]; exact True.intro) (.inl rfl) k ⟨_, hx⟩ (exo_ok hx)
    have eu : upd H a (exo a C none) = H := by
      funext b
      by_cases hb : b = a
      · rw [hb, upd_same, e]
      · rw [upd_ne hb]
    rw [eu] at J
    exact h _ J
  obtain ⟨hh, g, d, tk, os⟩ := s
  refine wpAny_call (codeAny_of_tree ?_)
  show wpAny _ X.A.in1 (callAny (.ref u) ⟨us, []⟩) _ _ _
  simp only [callAny]
  refine wpAny_bind (wpAny_load hu ?_)
  simp only [PySem.W.kxs_mw, show (Value.type "method-wrapper" == Value.type "method" || Value.type "method-wrapper" == Value.type "builtin_function_or_method" || Value.type "method-wrapper" == Value.type "method-wrapper") = true by decide, if_true]
  refine PySem.W.KFB.if_so (by decide) ?_
  refine wpAny_bind (PySem.W.check_bound_init F.excBase_ValueError.toExcCallFacts hC' ho rfl ?_)
  refine wpAny_bind (wpAny_pure (wpAny_pure ?_))
  refine ⟨PySem.plainId_quiet F.excBase_ValueError.init.plain _, codeAny_builtin F.excBase_ValueError.initEntry ?_⟩
  exact PySem.W.exc_init_tree (cls := .ref C) (t0 := t1) (dv := none) (c2 := .none) (c3 := .none) (b4 := .bool false) ho hl fun h' k hx _ => fin h' k hx
end

/-- what must be seen of the class at C and of its __init__ at f -/
structure SupC (P : Program) (K : PySem.W.Frag) (C f : Addr) (fd : FuncData) (cda cc : Addr) (sf : Str) : Prop where
  T : OexC K C
  fn : ∃ oc od osl, K.lookup f = some ⟨oc, od, .func fd, osl⟩
  head : ∃ ar, (fd.params.posonlyargs ++ fd.params.args).head? = some ar ∧ ar.arg = sf
  code : ∃ ccl cdd vs ccs file tf, K.lookup cda = some ⟨ccl, cdd, .fields vs, ccs⟩ ∧ vs[2]? = some (.str file tf) ∧ ((P.main.file : Str) == file) = true
  cell : ∃ cl cld csl, K.lookup cc = some ⟨cl, cld, .cell (some (.ref C)), csl⟩
  sub : PySem.W.mroIn K C (.ref C) = some true
  op : PySem.W.nsIn K cStatics "thirdparty.any" = some none
  sup : PySem.W.ks_superIn K C C "__init__" = some (some (.builtin veI))
  ve : PySem.W.subIn K (.ref C) (.type "ValueError") = some true
  top : (P.main.scope.names.lookup ("super" : Str)).isSome = false
  nosup : PySem.W.nsIn K mainGlobals "super" = some none
section
variable {X : Cx} {pins : List (Addr × Obj)} {σ : L2.St} {H : Hp} {s : Shared} {a C f cda cc : Addr} {fd : FuncData} {self : Str}
theorem cls_of_oex {K : PySem.W.Frag} (T : OexC K C) : ∃ cd, PySem.W.clsIn K C = some cd ∧ ∃ o, K.lookup C = some o ∧ o.data = .cls cd := by
  obtain ⟨nm, q, N, bs, bm, sn, sub, ab, col, dd, k0, k1, k2, k3, k5, hC, hbm⟩ := T.cls
  exact ⟨_, by unfold PySem.W.clsIn; rw [hC] <;> rfl, _, hC, rfl⟩
theorem eval_sup {o : Expr} {es : List Expr} {name : Str} {apos pos : Pos} (hn : es.all noStar = true) (hl : es.length < 30) (hline : (apos.endLine == pos.line) = true) :
    eval (.Call (.Attribute o name apos) es [] pos) X.env = (do
      let ov ← attributeBase o name X.env (eval o X.env)
      standAt apos.atName
      let (f, first) ← holding [ov] (getMethod ov name (do return (← importBound o X.env).getD true))
      callWith pos f first (backTo pos (starEach es X.env)) []) := by
  rw [arm_eval_Call]
  have hform := few_of hn hl X.env pos
  have hpos : methodCallPos true o X.env apos pos = pure pos := by unfold methodCallPos; simp [hline]
  unfold methodCall
  rw [hform, hpos]
  rfl
/-- super().__init__(e) -/
theorem sup_stmt {p0 p1 p2 p3 p4 : Pos} {arg : Expr} {te : TE} {body : List Stmt} {Q : Hp → Prop} (S : SupC X.prog X.K C f fd cda cc self) (I : Inv X pins σ H s)
    (hks : X.env.kindOf "super" = some .globalImplicit) (hkc : X.env.kindOf "__class__" = some .free) (hcl : X.env.cells.lookup ("__class__" : Str) = some cc) (hfu : X.env.func = some f) (hco : X.env.code = .ref cda) (hka : X.env.kindOf self = some .local)
    (e : H a = some (exo a C none)) (hN : X.N[0]? = some self) (hσ : σ[0]? = some (some (.ref a))) (ha : PE X arg te)
    (q : te σ H fun _ H1 => H1 a = some (exo a C none) ∧ Q H1)
    (hna : noStar arg = true) (hline : (p2.endLine == p3.line) = true) (hint : interactive X.env = false) :
    _root_.PySem.wpAt (model X.prog X.w) X.A (.func body X.env) (exec (.Expr (.Call (.Attribute (.Call (.Name "super" p0) [] [] p1) "__init__" p2) [arg] [] p3) p4) X.env)
      (fun fl s' => fl = .next ∧ ∃ H', Inv X pins σ H' s' ∧ Q H') X.xe s := by
  have KX := I.kIn
  have hst := star_cons hna [] X.env
  obtain ⟨oc, od, osl, hf⟩ := S.fn
  obtain ⟨ar, hp, har⟩ := S.head
  obtain ⟨ccl, cdd, vs, ccs, file, tf, hcode, hvs, hfile⟩ := S.code
  obtain ⟨cl, cld, csl, hcell⟩ := S.cell
  obtain ⟨cd, hD, oD, hD1, hD2⟩ := cls_of_oex S.T
  obtain ⟨m, hns, hloc⟩ := I.loc
  obtain ⟨u0, ru, lk⟩ := hloc 0 self (.ref a) hN hσ (.inl hka)
  obtain rfl : u0 = Value.ref a := ru
  have hm : m self = some (.ref a) := by
    rcases lk with ⟨_, z⟩ | ⟨z, _⟩
    · exact z
    · rw [hka] at z
      rcases z with z | z <;> cases z
  obtain ⟨mb, h1, h2⟩ := I.mod.blt
  obtain ⟨t1, ho⟩ := exo_at I.hok e
  have hxC : a ≠ C := by
    rintro rfl
    have z := KX _ _ hD1
    rw [ho] at z
    cases z
    cases hD2
  refine PySem.ks_wpAt_Expr_any (PySem.ks_wpAt_MethodCall (PySem.ks_wpAt_super_base hks hkc (by decide) hfu (KX _ _ hf) rfl hp hco (KX _ _ hcode) rfl hvs hfile S.top ?_) (eval_sup (by rw [List.all_cons, hna]; rfl) (by show 1 < 30; decide) hline)) hint
  refine PySem.W.ks_loadName_global I.ok.kind hks (Calls.loadGlobal_builtin (by rw [I.ok.glob]; exact I.mod.glob.keeps I.bk) (PySem.W.mg_none_of I.mod.kin I.mod.glob S.nosup) (by rw [I.ok.blt]; exact h1.keeps I.bk) ((h2 _ (by decide)).trans (by decide +kernel)) ⟨rfl, ?_⟩)
  refine wpAny_loadName_free I.ok.kind hkc hcl ⟨_, KX _ _ hcell, rfl⟩ ?_
  rw [har]
  refine wpAny_loadName_local I.ok.kind hka hns hm ?_
  obtain ⟨hh, g, d, t, os⟩ := s
  refine PySem.ks_wpAny_isType_cls (KX _ _ hD1) hD2 ⟨rfl, ?_⟩
  refine PySem.ks_wpAny_call_super (KX _ _ hD1) hD2 ho rfl (fun c e => by cases e) (PySem.W.looks_mroIn KX S.sub) (fun h' e1 k1 => ?_)
  have I1 : Inv X pins σ H ⟨h', g, d, t, os⟩ := I.kept (t' := t) k1
  have hI : PySem.W.Looks (model X.prog X.w) h' (isInstance (.ref a) (.type "ValueError")) true := by
    have J : PySem.W.InstAt h' a _ C none := ⟨k1 _ _ ho, rfl, rfl, trivial⟩
    exact J.type.andThen (PySem.W.looks_subIn I1.kIn S.ve)
  have hm2 : PySem.W.alongIn X.K "__init__" ((cd.mro.dropWhile (· != .ref C)).drop 1) = some (some (.builtin veI)) := by
    have z := S.sup
    unfold PySem.W.ks_superIn at z
    rw [hD] at z
    exact z
  refine PySem.W.kxs_getMethod PySem.W.kxs_ValueError e1 (PySem.W.looks_opaque I1.kIn S.op) (l₀ := cd.mro) (fun A Q E s k q => wpAny_bind ((PySem.W.looks_clsIn I1.kIn hD) A _ E s k (wpAny_pure q))) rfl I1.kIn hm2 hI hxC (by decide) ?_
  have k2 : ∀ b o, h'.get? b = some o → (h'.push (PySem.W.kxs_mw veI a)).get? b = some o := fun b o e => Heap.get?_push_of_some _ e
  have I2 : Inv X pins σ H ⟨h'.push (PySem.W.kxs_mw veI a), g, d, t + 1, os⟩ := I1.kept (t' := t + 1) k2
  have hu : (h'.push (PySem.W.kxs_mw veI a)).get? h'.objs.size = some (PySem.W.kxs_mw veI a) := Heap.get?_push_at rfl rfl
  have I3 : Inv X ((h'.objs.size, PySem.W.kxs_mw veI a) :: pins) σ H ⟨h'.push (PySem.W.kxs_mw veI a), g, d, t + 1, os⟩ := I2.pins_of fun p hp => by
    rcases List.mem_cons.mp hp with rfl | hp
    · refine ⟨hu, I1.hok.fresh (Nat.le_refl _), fun z => ?_, I1.nofs (Nat.le_refl _), fun v z => by cases z⟩
      have y := I1.lt
      rw [← z] at y
      exact Nat.lt_irrefl _ y
    · exact I2.pin p (List.mem_append_right _ hp)
  refine PySem.W.kxs_callWith (i := veI) (x := a) (by rw [hst]; rfl) ?_
  rw [hst]
  refine PySem.Calls.evalArgs_plain ?_
  show wpAny _ _ (spliced ((false, eval arg X.env) :: backTo p3 (starEach [] X.env))) _ _ _
  refine Calls.spliced_cons (thn (ha.run _ _ σ H _ I3 q) fun v s2 ⟨x, H1, I4, rx, e4, q4⟩ => ?_)
  refine Calls.spliced_nil ?_
  have hu4 := (I4.pin (h'.objs.size, PySem.W.kxs_mw veI a) (List.mem_append_right _ List.mem_cons_self)).1
  refine ⟨hu4, ?_⟩
  have I5 : Inv X pins σ H1 s2 := I4.pins_of fun p hp => I4.pin p (List.mem_append_right _ (List.mem_cons_of_mem _ hp))
  exact mwinit_ok S.T I5 hu4 e4 (by show 1 ≤ sizeLine; rw [sizeLine_eq]; omega) fun s' J => ⟨rfl, H1, J, q4⟩
end
end Pc

set_option Elab.async false
set_option linter.all false
set_option maxRecDepth 100000
set_option maxHeartbeats 2000000
set_option autoImplicit false
/-! PcX2: what such an __init__ promises -/
namespace Pc
open PySem PySem.Spec PyProof.Rows L2 NdefX
section
variable {P : Program} {w : World} {K : PySem.W.Frag} {mg : Str → Option Value} {base : Heap} {k : Nat} {F : NF} {f cc C : Addr} {doc pm ctv : Value} {sf : Str} {N ps : List Str} {sp : Sp} {p0 p1 p2 p3 p4 : Pos} {arg : Expr} {rest : List Stmt}
theorem exi_of (S : SupC P K C f (F.fd doc pm ctv) F.c cc sf) (hcl : F.cl = [(("__class__" : Str), cc)]) (hcode : PySem.W.codeIn K (.ref F.c) F.qual = true) (NS : NScope N ps ["__class__"] F.scope)
    (hks : F.scope.names.lookup ("super" : Str) = some .globalImplicit) (hka : F.scope.names.lookup sf = some .local) (hN0 : N[0]? = some sf) (hbody : F.body = .Expr (.Call (.Attribute (.Call (.Name "super" p0) [] [] p1) "__init__" p2) [arg] [] p3) p4 :: rest)
    (hna : noStar arg = true) (hline : (p2.endLine == p3.line) = true) (len : ∀ vs H Q E, sp vs H Q E → vs.length = ps.length)
    (hb : ∀ (X : Cx) (vs : List V) (H : Hp) (Q : VK) (E : XK), X.N = N → X.env.scope = F.scope → X.K = K → sp vs H Q E → ∃ a vr te t, vs = .ref a :: vr ∧ H a = some (exo a C none) ∧ PE X arg te ∧ PSs X rest t ∧
      te (startF N vs [none]) H fun _ H1 => H1 a = some (exo a C none) ∧ t { nx := fun _ H' => Q .non H', rt := Q } (startF N vs [none]) H1) :
    FnOkG P w K mg base (L2.CX P w) k f (F.fd doc pm ctv) ps sp := by
  refine ⟨len, fun A outer s H args us vs Q E hgd hr e0 hbd r hsp => ?_⟩
  have hl := len _ _ _ _ hsp
  have KX : K.In s.heap := e0.mod.kin.keeps fun b o e => (e0.bs b o e).1
  have lim : s.heap.NoLimit := e0.mod.nolimit.keeps fun b o e => (e0.bs b o e).1
  obtain ⟨oc, od, osl, hf⟩ := S.fn
  obtain ⟨cl, cld, csl, hcell⟩ := S.cell
  have CA : CellsAt F.cl ["__class__"] [none] s.heap H := by
    rw [hcl]
    refine ⟨rfl, fun y c e => ?_, fun x y c e1 e2 => ?_, fun i y hi => ?_⟩
    · have ec : c = cc := by
        rw [List.lookup_cons] at e
        split at e
        · exact (Option.some.inj e).symm
        · cases e
      subst ec
      have hb0 := e0.mod.kin _ _ hcell
      exact ⟨(e0.bs _ _ hb0).2, some (.ref C), _, KX _ _ hcell, rfl⟩
    · have key : ∀ {z : Str}, List.lookup z [(("__class__" : Str), cc)] = some c → z = "__class__" := by
        intro z e
        rw [List.lookup_cons] at e
        split at e
        · rename_i h
          exact beq_iff_eq.mp h
        · cases e
      rw [key e1, key e2]
    · cases i with
      | zero =>
        cases hi
        refine ⟨cc, by rw [List.lookup_cons]; simp, fun v z => ?_⟩
        cases z
      | succ j => cases hi
  refine codeAny_call_function hr.depth (KX _ _ hf) rfl NS.co NS.gen rfl (PySem.W.codeRec_of KX hcode) (hbd _ _ _ _ ?_)
  refine wpAny_newFunctionEnv NS.nocell (fun ⟨n, _⟩ hy => NS.par n (List.of_mem_zip hy).1) (fun h₁ hns hsb => ⟨lim.fresh _ hsb, ?_⟩) NS.kind
  show codeAny _ _ (.func F.body (envF F f s.heap.objs.size)) _ _
  refine PySem.ks_codeAny_funcAt ?_
  have kp : ∀ b o, s.heap.get? b = some o → h₁.get? b = some o := fun b o e => hsb.extBut b o (Nat.ne_of_lt (Heap.lt_size e)) (Heap.get?_push_of_some _ e)
  have I : Inv (ncx (L2.CX P w) P w K mg base N F f A outer s H E) [] (startF N vs [none]) H { s with heap := h₁, toks := s.toks + (ps.zip us).length } := inv_startN NS hr.hd e0 hl r CA hns kp
  obtain ⟨a, vr, te, t, hvs, hea, he, ht, hq⟩ := hb (ncx (L2.CX P w) P w K mg base N F f A outer s H E) vs H Q E rfl rfl rfl hsp
  have hs0 : (startF N vs [none])[0]? = some (some (.ref a)) := by
    rw [hvs]
    rfl
  have fin : ∀ {σ' : L2.St} {H' : Hp} {v : V} {u : Value} {s' : Shared}, Inv (ncx (L2.CX P w) P w K mg base N F f A outer s H E) [] σ' H' s' → L2.RelV v u → Q v H' → CE outer P w H s Q u s' :=
    fun {σ' H' v u s'} J rv q => ⟨v, H', J.os, J.bare, J.base, J.hok, rv, q⟩
  have key := sup_stmt (body := F.body) (p0 := p0) (p1 := p1) (p2 := p2) (p3 := p3) (p4 := p4) (Q := fun H1 => t { nx := fun _ H' => Q .non H', rt := Q } (startF N vs [none]) H1) S I hks (NS.frk _ (by simp)) (by show F.cl.lookup _ = _; rw [hcl, List.lookup_cons]; simp) rfl rfl hka hea hN0 hs0 he hq hna hline (by show (F.scope.kind == _ && _) = false; rw [NS.kind]; rfl)
  rw [hbody] at key ⊢
  refine PySem.ks_wpAt_execs_cons (_root_.PySem.wpAt_mono key (fun fl s' ⟨hfl, H', J, q⟩ => ?_) fun _ _ x => x)
  subst hfl
  refine _root_.PySem.wpAt_of_wpAny (wpAny_mono (ht.run [] _ _ _ _ J q) (fun fl s'' hs => ?_) fun e s' hs => hs)
  cases fl with
  | ret u =>
    obtain ⟨v, σ', H', J, rv, q⟩ := hs
    exact fin J rv q
  | next =>
    obtain ⟨σ', H', J, q⟩ := hs
    exact fin (v := V.non) (u := Value.none) J rfl q
  | brk =>
    obtain ⟨_, _, _, q⟩ := hs
    exact False.elim q
  | cont =>
    obtain ⟨_, _, _, q⟩ := hs
    exact False.elim q
end
end Pc

set_option Elab.async false
set_option linter.all false
set_option maxRecDepth 100000
set_option maxHeartbeats 2000000
set_option autoImplicit false
/-! PcX3: .. for each of the shapes -/
namespace Pc
open PySem PySem.Spec PyProof.Rows L2 NdefX
/-- what an f-string takes -/
def Fmt : V → Prop
  | .str y => y.length ≤ 1900
  | .int i => i.natAbs.log2 < 1920
  | _ => False
def spX (C : Addr) (fm : Bool) : Option Str → Sp
  | none => fun vs H Q _ => ∃ a, vs = [.ref a] ∧ H a = some (exo a C none) ∧ Q .non H
  | some fl => fun vs H Q _ => ∃ a x, vs = [.ref a, x] ∧ (fm = true → Fmt x) ∧ H a = some (exo a C none) ∧ ∀ dx, H dx = none → dx ≠ a → Q .non (upd (upd H dx (exd dx [(fl, x)])) a (exo a C (some dx)))
def nOf : Option Str → Nat
  | none => 1
  | some _ => 2
theorem spX_len {C : Addr} {fm : Bool} : ∀ {fl : Option Str} (vs : List V) (H : Hp) (Q : VK) (E : XK), spX C fm fl vs H Q E → vs.length = nOf fl
  | none, _, _, _, _, ⟨_, e, _⟩ => by rw [e]; rfl
  | some _, _, _, _, _, ⟨_, _, e, _⟩ => by rw [e]; rfl
def partB (x : Str) : Expr → Bool
  | .Constant (.str s) _ _ => decide (s.length ≤ 1900)
  | .FormattedValue (.Name y _) c none _ => decide (y = x) && decide (c = -1)
  | _ => false
def plainB (x : Str) : Bool := !(x == ("__debug__" : Str)) && !(x == ("__classdict__" : Str))
section
variable {X : Cx} {i : Nat} {x : Str}
theorem parts_pe (hN : X.N[i]? = some x) (hv : Vis X.env.scope x) (hp : plainB x = true) : ∀ l : List Expr, l.all (partB x) = true → ∃ ts, PJ X l ts ∧
    ∀ (σ : L2.St) (H : Hp) (v : V), σ[i]? = some (some v) → Fmt v → ∀ (acc : Str) (Q : Str → Hp → Prop), acc.length + 2000 * l.length ≤ 40000 → (∀ out, Q out H) → tJs ts acc σ H Q
  | [], _ => ⟨[], .nil, fun σ H v hv hf acc Q hl q => q acc⟩
  | e :: l, h => by
    rw [List.all_cons, Bool.and_eq_true] at h
    obtain ⟨ts, h1, h2⟩ := parts_pe hN hv hp l h.2
    unfold plainB at hp
    simp only [Bool.and_eq_true, Bool.not_eq_true'] at hp
    obtain ⟨d1, d2⟩ := hp
    have hz : ∀ n : Nat, n ≤ 40000 → n ≤ sizeLine := fun n hn => by rw [sizeLine_eq]; omega
    have he := h.1
    unfold partB at he
    split at he
    · rename_i s j pos
      refine ⟨tC (.str s) :: ts, .cons pe_str h1, fun σ H v hs hf acc Q hl q => ?_⟩
      rw [List.length_cons] at hl
      have hs1 : s.length ≤ 1900 := of_decide_eq_true he
      have e1 : (acc ++ s).length = acc.length + s.length := PySem.Str.length_append _ _
      exact ⟨s, rfl, hz _ (by omega), h2 σ H v hs hf _ Q (by omega) q⟩
    · rename_i y py c pos
      rw [Bool.and_eq_true] at he
      obtain rfl : y = x := of_decide_eq_true he.1
      obtain rfl : c = -1 := of_decide_eq_true he.2
      refine ⟨tFmt (tVar i) :: ts, .cons (pe_fmt (pe_var hN hv d1 d2)) h1, fun σ H v hs hf acc Q hl q => ⟨v, hs, ?_⟩⟩
      rw [List.length_cons] at hl
      cases v with
      | str y =>
        have hf : y.length ≤ 1900 := hf
        have e1 : (acc ++ y).length = acc.length + y.length := PySem.Str.length_append _ _
        exact .inl ⟨y, rfl, hz _ (by omega), y, rfl, hz _ (by omega), h2 σ H _ hs hf _ Q (by omega) q⟩
      | int n =>
        have hf' : n.natAbs.log2 < 1920 := hf
        have hn := int_text_length_le (k := 1920) (by decide) hf'
        have e1 : (acc ++ Str.ofString (toString n)).length = acc.length + (toString n).length := by rw [PySem.Str.length_append, PySem.ofString_length]
        exact .inr ⟨n, rfl, hf', _, rfl, hz _ (by omega), h2 σ H _ hs hf _ Q (by omega) q⟩
      | _ => exact hf.elim
    · cases he
end
def argB (x : Option Str) : Expr → Bool
  | .Constant (.str _) _ _ => true
  | .JoinedStr (v1 :: v2 :: rest) _ => (match x with
    | some x => (v1 :: v2 :: rest).all (partB x) && decide ((v1 :: v2 :: rest).length ≤ 15)
    | none => false)
  | _ => false
def argF : Expr → Bool
  | .JoinedStr .. => true
  | _ => false
theorem argB_star {x : Option Str} {e : Expr} (h : argB x e = true) : noStar e = true := by
  unfold argB at h
  split at h
  · rfl
  · rfl
  · cases h
section
variable {X : Cx} {i : Nat} {x : Option Str} {e : Expr}
theorem arg_pe (hx : ∀ y, x = some y → X.N[i]? = some y ∧ Vis X.env.scope y ∧ plainB y = true) (h : argB x e = true) : ∃ te, PE X e te ∧
    ∀ (σ : L2.St) (H : Hp) (Q : Hp → Prop), (argF e = true → ∃ v, σ[i]? = some (some v) ∧ Fmt v) → Q H → te σ H fun _ H1 => Q H1 := by
  unfold argB at h
  split at h
  · exact ⟨_, pe_str, fun σ H Q _ q => q⟩
  · rename_i v1 v2 rest pos
    split at h
    · rename_i y
      obtain ⟨h1, h2, h3⟩ := hx y rfl
      rw [Bool.and_eq_true] at h
      obtain ⟨ts, t1, t2⟩ := parts_pe h1 h2 h3 _ h.1
      refine ⟨_, pe_joined t1, fun σ H Q hf q => ?_⟩
      obtain ⟨v, s1, s2⟩ := hf rfl
      have hl : (v1 :: v2 :: rest).length ≤ 15 := of_decide_eq_true h.2
      exact t2 σ H v s1 s2 Str.empty _ (by show 0 + _ ≤ _; omega) fun out => q
    · cases h
  · cases h
end
section
variable {P : Program} {w : World} {K : PySem.W.Frag} {mg : Str → Option Value} {base : Heap} {k : Nat} {F : NF} {f cc C : Addr} {doc pm ctv : Value} {sf : Str} {p0 p1 p2 p3 p4 : Pos} {arg : Expr}
/-- without a field -/
theorem exi_none (S : SupC P K C f (F.fd doc pm ctv) F.c cc sf) (hcl : F.cl = [(("__class__" : Str), cc)]) (hcode : PySem.W.codeIn K (.ref F.c) F.qual = true) (NS : NScope [sf, "__class__"] [sf] ["__class__"] F.scope)
    (hks : F.scope.names.lookup ("super" : Str) = some .globalImplicit) (hbody : F.body = [.Expr (.Call (.Attribute (.Call (.Name "super" p0) [] [] p1) "__init__" p2) [arg] [] p3) p4])
    (ha : argB none arg = true) (hline : (p2.endLine == p3.line) = true) : FnOkG P w K mg base (L2.CX P w) k f (F.fd doc pm ctv) [sf] (spX C (argF arg) none) := by
  have hf : argF arg = false := by
    unfold argB at ha
    split at ha
    · rfl
    · cases ha
    · cases ha
  refine exi_of S hcl hcode NS hks (NS.par _ (by simp)) rfl hbody (argB_star ha) hline spX_len fun X vs H Q E hN hs hK hsp => ?_
  obtain ⟨a, rfl, hea, q⟩ := hsp
  obtain ⟨te, h1, h2⟩ := arg_pe (X := X) (i := 0) (x := none) (fun y e => by cases e) ha
  refine ⟨a, [], te, tNext, rfl, hea, h1, pss_nil, h2 _ _ _ (fun z => by rw [hf] at z; cases z) ⟨hea, q⟩⟩
/-- with one -/
theorem exi_some {q0 q1 q2 q3 : Pos} {xn fl : Str} (S : SupC P K C f (F.fd doc pm ctv) F.c cc sf) (hcl : F.cl = [(("__class__" : Str), cc)]) (hcode : PySem.W.codeIn K (.ref F.c) F.qual = true) (NS : NScope [sf, xn, "__class__"] [sf, xn] ["__class__"] F.scope)
    (hks : F.scope.names.lookup ("super" : Str) = some .globalImplicit) (hbody : F.body = [.Expr (.Call (.Attribute (.Call (.Name "super" p0) [] [] p1) "__init__" p2) [arg] [] p3) p4, .Assign [.Attribute (.Name sf q0) fl q1] (.Name xn q2) q3])
    (ha : argB (some xn) arg = true) (hline : (p2.endLine == p3.line) = true) (hpx : plainB xn = true) (hps : plainB sf = true) (hno : PySem.W.findIn K (.ref C) fl = some none) : FnOkG P w K mg base (L2.CX P w) k f (F.fd doc pm ctv) [sf, xn] (spX C (argF arg) (some fl)) := by
  refine exi_of S hcl hcode NS hks (NS.par _ (by simp)) rfl hbody (argB_star ha) hline spX_len fun X vs H Q E hN hs hK hsp => ?_
  obtain ⟨a, x, rfl, hfm, hea, q⟩ := hsp
  have hv1 : Vis X.env.scope xn := .inl (by rw [hs]; exact NS.par _ (by simp))
  have hv0 : Vis X.env.scope sf := .inl (by rw [hs]; exact NS.par _ (by simp))
  have d1 := hpx
  have d0 := hps
  unfold plainB at d1 d0
  simp only [Bool.and_eq_true, Bool.not_eq_true'] at d1 d0
  obtain ⟨te, h1, h2⟩ := arg_pe (X := X) (i := 1) (x := some xn) (fun y e => by cases e; exact ⟨by rw [hN]; rfl, hv1, hpx⟩) ha
  have ho : PE X (.Name sf q0) (tVar 0) := pe_var (by rw [hN]; rfl) hv0 d0.1 d0.2
  have he : PE X (.Name xn q2) (tVar 1) := pe_var (by rw [hN]; rfl) hv1 d1.1 d1.2
  refine ⟨a, [x], te, _, rfl, hea, h1, pss_one (ps_ost (f := fl) ho he (by rfl)), h2 _ _ _ (fun z => ⟨x, rfl, hfm z⟩) ⟨hea, ?_⟩⟩
  refine ⟨x, rfl, .ref a, rfl, a, C, rfl, by rw [hK]; exact S.T, by rw [hK]; exact hno, .inl ⟨hea, fun dx n ne => q dx n ne⟩⟩
end
end Pc

set_option Elab.async false
set_option linter.all false
set_option maxRecDepth 100000
set_option maxHeartbeats 2000000
set_option autoImplicit false
/-! PcX4: .. seen in the written part -/
namespace Pc
open PySem PySem.Spec PyProof.Rows L2 NdefX
theorem fmap_congr {α β : Type} {f g : α → Option β} : ∀ {l : List α}, (∀ m ∈ l, f m = g m) → l.filterMap f = l.filterMap g
  | [], _ => rfl
  | a :: l, h => by rw [List.filterMap_cons, List.filterMap_cons, h a List.mem_cons_self, fmap_congr fun m hm => h m (List.mem_cons_of_mem _ hm)]
theorem zip_some : ∀ {ns : List Str} {us : List Value} {x : Str}, us.length = ns.length → x ∈ ns → ((ns.zip us).lookup x).isSome = true
  | [], _, _, _, h => by cases h
  | n :: ns, [], _, h, _ => by cases h
  | n :: ns, u :: us, x, hl, h => by
    rw [List.zip_cons_cons, List.lookup_cons]
    cases hx : (x == n) with
    | true => rfl
    | false =>
      refine zip_some (by simpa using hl) ((List.mem_cons.mp h).resolve_left fun e => ?_)
      subst e
      simp at hx
theorem zip_map : ∀ {ns : List Str} {us : List Value}, ns.Nodup → us.length = ns.length → ns.filterMap (fun n => ((ns.zip us).lookup n).map (n, ·)) = ns.zip us
  | [], us, _, _ => rfl
  | n :: ns, [], _, h => by cases h
  | n :: ns, u :: us, nd, hl => by
    have nd' := List.nodup_cons.mp nd
    rw [List.zip_cons_cons, List.filterMap_cons, List.lookup_cons]
    have e : (n == n) = true := by simp
    rw [e]
    show (n, u) :: _ = _
    have ih := zip_map nd'.2 (us := us) (by simpa using hl)
    congr 1
    refine Eq.trans ?_ ih
    refine fmap_congr fun m hm => ?_
    rw [List.lookup_cons]
    have : (m == n) = false := by
      apply Bool.eq_false_iff.mpr
      intro z
      rw [beq_iff_eq.mp z] at hm
      exact nd'.1 hm
    rw [this]
theorem bind_plain {fd : FuncData} {us : List Value} {ns : List Str} (h1 : fd.params.posonlyargs = []) (h2 : fd.params.kwonlyargs = []) (h3 : fd.params.vararg = none) (h4 : fd.params.kwarg = none) (h5 : fd.defaults = .none) (h6 : fd.params.args.map (·.arg) = ns) (nd : ns.Nodup) (hl : us.length = ns.length) :
    bindArgs fd ⟨us, []⟩ = pure (ns.zip us) := by
  have e1 : seqItems? fd.defaults = pure none := by rw [h5]; rfl
  have e2 : (ns.filter fun n => ((ns.zip us).lookup n).isNone) = [] := by
    rw [List.filter_eq_nil_iff]
    intro x hx
    have := zip_some hl hx
    rw [Option.isNone_iff_eq_none]
    intro z
    rw [z] at this
    cases this
  unfold bindArgs
  simp only [h1, h2, h3, h4, e1, h6, List.map_nil, List.nil_append, List.append_nil, List.length_nil]
  simp [hl, e2, zip_map nd hl]

theorem take_nodup {l m : List Str} (h : l.Nodup) (e : l.take m.length = m) : m.Nodup := by
  rw [← e]
  exact h.sublist (List.take_sublist _ _)
/-- an own exception class and its __init__ -/
structure ExaOk (P : Program) (K : PySem.W.Frag) (C : Addr) (fm : Bool) (fl : Option Str) : Prop where
  T : OexC K C
  ini : ∃ fI fd ps, PySem.W.findIn K (.ref C) "__init__" = some (some (.ref fI)) ∧ PySem.W.typeIn K (.ref fI) = some (.type "function") ∧ Binds K fd ps [] ∧ ps.length = nOf fl ∧
    ∀ (w : World) (mg : Str → Option Value) (base : Heap) (k : Nat), FnOkG P w K mg base (L2.CX P w) k fI fd ps (spX C fm fl)
def oexB (K : PySem.W.Frag) (C : Addr) : Bool := match K.lookup C with
  | some ⟨.type t, _, .cls cd, sl⟩ => t == "type" && (match cd.mro, sl.toList with
    | .ref C' :: bm, [_, _, _, _, some (.builtin n), _] => C' == C && n == "ValueError.__new__" && !cd.hasDel && cd.hasDict && PySem.HandSPX.refsVE bm
    | _, _ => false)
  | _ => false
def oexB2 (K : PySem.W.Frag) (C : Addr) : Bool := PySem.W.findIn K (.ref C) "__setattr__" == some (some (.builtin "object.__setattr__")) && PySem.W.subIn K (.ref C) (.type "BaseException") == some true && PySem.W.typeIn K (.ref C) == some (.type "type") && PySem.W.keepIn K (.ref C)
theorem oex_of {K : PySem.W.Frag} {C : Addr} (h : oexB K C = true) (h2 : oexB2 K C = true) : OexC K C := by
  unfold oexB2 at h2
  simp only [Bool.and_eq_true, beq_iff_eq] at h2
  obtain ⟨⟨⟨g1, g2⟩, g3⟩, g4⟩ := h2
  refine ⟨?_, g1, g2, g3, g4⟩
  unfold oexB at h
  split at h
  · rename_i t dd cd sl ho
    rw [Bool.and_eq_true] at h
    obtain ⟨ht, h⟩ := h
    split at h
    · rename_i C' bm k0 k1 k2 k3 n k5 hm hs
      simp only [Bool.and_eq_true, beq_iff_eq, Bool.not_eq_true'] at h ht
      obtain ⟨⟨⟨⟨rfl, rfl⟩, hdel⟩, hd⟩, hr⟩ := h
      subst ht
      obtain ⟨nm, bs, mro, ns, qn, hdc, sn, sub, ab, col, del⟩ := cd
      dsimp only at hm hdel hd
      subst hm hdel hd
      have hsl : sl = #[k0, k1, k2, k3, some (.builtin "ValueError.__new__"), k5] := by
        obtain ⟨l⟩ := sl
        simp only at hs
        rw [hs]
      subst hsl
      exact ⟨nm, qn, ns, bs, bm, sn, sub, ab, col, dd, k0, k1, k2, k3, k5, ho, hr⟩
    · cases h
  · cases h
def bodyB (sf : Str) (xn fl : Option Str) (fm : Bool) : List Stmt → Bool
  | [.Expr (.Call (.Attribute (.Call (.Name s p0) [] [] p1) m p2) [arg] [] p3) p4] => decide (s = ("super" : Str)) && decide (m = ("__init__" : Str)) && decide (fl = none) && argB none arg && (p2.endLine == p3.line) && (argF arg == fm)
  | [.Expr (.Call (.Attribute (.Call (.Name s p0) [] [] p1) m p2) [arg] [] p3) p4, .Assign [.Attribute (.Name s1 q0) f q1] (.Name y q2) q3] =>
    decide (s = ("super" : Str)) && decide (m = ("__init__" : Str)) && decide (s1 = sf) && decide (xn = some y) && decide (fl = some f) && argB (some y) arg && (p2.endLine == p3.line) && (argF arg == fm)
  | _ => false
def codB (P : Program) (K : PySem.W.Frag) (cda : Addr) : Bool := match K.lookup cda with
  | some ⟨_, _, .fields vs, _⟩ => (match (vs[2]? : Option Value) with
    | some (Value.str file _) => (P.main.file : Str) == file
    | _ => false)
  | _ => false
def celB (K : PySem.W.Frag) (cc C : Addr) : Bool := match K.lookup cc with
  | some ⟨_, _, .cell (some (.ref D)), _⟩ => D == C
  | _ => false
def iniB (P : Program) (K : PySem.W.Frag) (C : Addr) (fm : Bool) (fl : Option Str) : FuncData → Bool
  | ⟨nm, q, pr, .stmts body, sc, g, [(cn, cc)], .none, .none, doc, pm, none, .ref cda, ct, b⟩ =>
    g == mainGlobals && b == builtinsNs && decide (cn = ("__class__" : Str)) && PySem.W.codeIn K (.ref cda) q && codB P K cda && celB K cc C && decide (sc.names.lookup ("super" : Str) = some .globalImplicit) &&
    pr.posonlyargs.isEmpty && pr.kwonlyargs.isEmpty && pr.vararg.isNone && pr.kwarg.isNone &&
    (match pr.args.map (·.arg), fl with
    | [sf], none => nscB [sf, "__class__"] [sf] ["__class__"] sc && bodyB sf none none fm body
    | [sf, xn], some f => nscB [sf, xn, "__class__"] [sf, xn] ["__class__"] sc && bodyB sf (some xn) (some f) fm body && plainB xn && plainB sf && (PySem.W.findIn K (.ref C) f == some none)
    | _, _ => false)
  | _ => false
def exaB (P : Program) (K : PySem.W.Frag) (C : Addr) (fm : Bool) (fl : Option Str) : Bool := oexB K C && oexB2 K C && (PySem.W.mroIn K C (.ref C) == some true) && (PySem.W.nsIn K cStatics "thirdparty.any" == some none) && (PySem.W.ks_superIn K C C "__init__" == some (some (.builtin veI))) &&
  (PySem.W.subIn K (.ref C) (.type "ValueError") == some true) && !(P.main.scope.names.lookup ("super" : Str)).isSome && (PySem.W.nsIn K mainGlobals "super" == some none) &&
  (match PySem.W.findIn K (.ref C) "__init__" with
  | some (some (.ref f)) => (match K.lookup f with
    | some ⟨.type t, _, .func fd, _⟩ => t == "function" && iniB P K C fm fl fd
    | _ => false)
  | _ => false)
theorem exa_ok {P : Program} {K : PySem.W.Frag} {C : Addr} {fm : Bool} {fl : Option Str} (h : exaB P K C fm fl = true) : ExaOk P K C fm fl := by
  unfold exaB at h
  simp only [Bool.and_eq_true, beq_iff_eq, Bool.not_eq_true'] at h
  obtain ⟨⟨⟨⟨⟨⟨⟨⟨a1, a2⟩, a3⟩, a4⟩, a5⟩, a6⟩, a7⟩, a8⟩, h⟩ := h
  have T := oex_of a1 a2
  refine ⟨T, ?_⟩
  split at h
  · rename_i f hf
    split at h
    · rename_i t od fd osl hl
      rw [Bool.and_eq_true] at h
      obtain ⟨ht, h⟩ := h
      have ht : t = "function" := beq_iff_eq.mp ht
      subst ht
      unfold iniB at h
      split at h
      · rename_i nm q pr body sc g cn cc doc pm cda ct b
        simp only [Bool.and_eq_true, beq_iff_eq, decide_eq_true_eq, List.isEmpty_iff, Option.isNone_iff_eq_none] at h
        obtain ⟨⟨⟨⟨⟨⟨⟨⟨⟨⟨⟨b1, b2⟩, b3⟩, b4⟩, b5⟩, b6⟩, b7⟩, b8⟩, b9⟩, b10⟩, b11⟩, h⟩ := h
        subst b1 b2 b3
        have code : ∃ ccl cdd vs ccs file tf, K.lookup cda = some ⟨ccl, cdd, .fields vs, ccs⟩ ∧ vs[2]? = some (.str file tf) ∧ ((P.main.file : Str) == file) = true := by
          unfold codB at b5
          split at b5
          · rename_i c1 c2 vs c3 hc
            split at b5
            · rename_i file tf hv
              exact ⟨_, _, _, _, file, tf, hc, hv, b5⟩
            · cases b5
          · cases b5
        have cell : ∃ cl cld csl, K.lookup cc = some ⟨cl, cld, .cell (some (.ref C)), csl⟩ := by
          unfold celB at b6
          split at b6
          · rename_i c1 c2 D c3 hc
            have e : D = C := beq_iff_eq.mp b6
            subst e
            exact ⟨_, _, _, hc⟩
          · cases b6
        have tI : PySem.W.typeIn K (.ref f) = some (.type "function") := by
          show (K.lookup f).map (·.cls) = _
          rw [hl]
          rfl
        have bind : ∀ {ps : List Str}, pr.args.map (·.arg) = ps → ps.Nodup → Binds K ((NF.mk nm q pr body sc [(("__class__" : Str), cc)] cda).fd doc pm ct) ps [] := fun {ps} e nd => .all fun us hl => bind_plain b8 b9 b10 b11 rfl e nd hl
        have S : ∀ {sf : Str} {l : List Arg}, pr.args = l → (l.map (·.arg)).head? = some sf → SupC P K C f ((NF.mk nm q pr body sc [(("__class__" : Str), cc)] cda).fd doc pm ct) cda cc sf := fun {sf l} e e2 => by
          refine ⟨T, ⟨_, od, osl, hl⟩, ?_, code, cell, a3, a4, a5, a6, a7, a8⟩
          show ∃ ar, (pr.posonlyargs ++ pr.args).head? = some ar ∧ ar.arg = sf
          rw [b8, e]
          cases l with
          | nil => cases e2
          | cons x l =>
            cases e2
            exact ⟨x, rfl, rfl⟩
        split at h
        · rename_i sf hps
          rw [Bool.and_eq_true] at h
          obtain ⟨c1, c2⟩ := h
          have NS := nscope_by c1
          unfold bodyB at c2
          split at c2
          · rename_i s p0 p1 m p2 arg p3 p4
            simp only [Bool.and_eq_true, beq_iff_eq, decide_eq_true_eq] at c2
            obtain ⟨⟨⟨⟨⟨rfl, rfl⟩, _⟩, d1⟩, d2⟩, rfl⟩ := c2
            exact ⟨f, _, [sf], hf, tI, bind hps (by simp), rfl, fun w mg base k => exi_none (F := ⟨nm, q, pr, _, sc, [(("__class__" : Str), cc)], cda⟩) (S rfl (by rw [hps]; rfl)) rfl b4 NS b7 rfl d1 (by rw [d2]; simp)⟩
          · rename_i s p0 p1 m p2 arg p3 p4 s1 q0 f' q1 y q2 q3
            simp at c2
          · cases c2
        · rename_i sf xn fl hps
          simp only [Bool.and_eq_true, beq_iff_eq] at h
          obtain ⟨⟨⟨⟨c1, c2⟩, c3⟩, c4⟩, c5⟩ := h
          have NS := nscope_by c1
          unfold bodyB at c2
          split at c2
          · simp at c2
          · rename_i s p0 p1 m p2 arg p3 p4 s1 q0 f' q1 y q2 q3
            simp only [Bool.and_eq_true, beq_iff_eq, decide_eq_true_eq] at c2
            obtain ⟨⟨⟨⟨⟨⟨⟨rfl, rfl⟩, rfl⟩, e1⟩, e2⟩, d1⟩, d2⟩, rfl⟩ := c2
            cases e1
            cases e2
            have nd : [s1, xn].Nodup := by
              have z := NS.nd.sublist (List.take_sublist 2 _)
              exact z
            exact ⟨f, _, [s1, xn], hf, tI, bind hps nd, rfl, fun w mg base k => exi_some (F := ⟨nm, q, pr, _, sc, [(("__class__" : Str), cc)], cda⟩) (S rfl (by rw [hps]; rfl)) rfl b4 NS b7 rfl d1 (by rw [d2]; simp) c3 c4 c5⟩
          · cases c2
        · cases h
      · cases h
    · cases h
  · cases h
end Pc

set_option Elab.async false
set_option linter.all false
set_option maxRecDepth 100000
set_option maxHeartbeats 2000000
set_option autoImplicit false
/-! PcX5: exceptions as values: made, their fields -/
namespace Pc
open PySem PySem.Spec PyProof.Rows L2
def fmD : D → Bool
  | .str y => decide (y.length ≤ 1900)
  | .int i => decide (i.natAbs.log2 < 1920)
  | _ => false
def mkExo (c : Str) (fm : Bool) (fl : Option Str) (ds : List D) (M : Mem) : R RV := match fl, ds with
  | none, [] => .ok (.val (.exo c [] [])) M
  | some f, [d] => if fm then (if fmD d then .ok (.val (.exo c [f] [d])) M else .stuck) else .ok (.val (.exo c [f] [d])) M
  | _, _ => .stuck
theorem mkExo_one {c f : Str} {fm : Bool} {d : D} {M : Mem} (h : fm = true → fmD d = true) : mkExo c fm (some f) [d] M = .ok (.val (.exo c [f] [d])) M := by
  unfold mkExo
  cases fm with
  | true => simp [h rfl]
  | false => rfl
def mExo (c : Str) (fm : Bool) (fl : Option Str) (ms : MDs) : ME := fun env M => (ms env M).bind (mkExo c fm fl)
section
variable {K : PySem.W.Frag} {F : Hp} {io : List Addr}
theorem fmD_rel {d : D} {v : V} (r : Rel K F io d v) (h : fmD d = true) : Fmt v := by
  cases d with
  | str y =>
    obtain rfl : v = V.str y := r
    have z : y.length ≤ 1900 := of_decide_eq_true (show decide (y.length ≤ 1900) = true from h)
    exact z
  | int i =>
    obtain rfl : v = V.int i := r
    have z : i.natAbs.log2 < 1920 := of_decide_eq_true (show decide (i.natAbs.log2 < 1920) = true from h)
    exact z
  | _ => cases h
end
section
variable {X : Cx} {W : WX} {es : List Expr} {p pos : Pos}
theorem run_exo {c : Str} {lev : Nat} {fm : Bool} {fl : Option Str} {pins : List (Addr × Obj)} {σ : St} {H : Hp} {s : Shared} {Q : VK} {us : List Value} {vs : List V} {F : Hp} {io : List Addr} {ds : List D} {M : Mem}
    (T : ExaOk X.prog X.K (He.ga X.K c) fm fl) (gd : X.A.guards = some []) (hr : Room (lev + 1) X.A) (tk : Takes X W) (I : Inv X pins σ H s) (r : Vals vs us) (ha : HA X.K F io H M) (rl : RelL X.K F io ds vs)
    (p : PostE X.K W F io H σ Q (mkExo c fm fl ds M)) : wpAny (model X.prog X.w) X.A (call (.ref (He.ga X.K c)) us) (EP X pins σ Q) X.xe s := by
  obtain ⟨Tc, fI, fd, ps, iC, tI, bd, lp, F0⟩ := T
  obtain ⟨nm, q, N, bs, bm, sn, sub, ab, col, dd, k0, k1, k2, k3, k5, hC, hbm⟩ := Tc.cls
  have Fn := F0 X.w X.mg X.base lev
  have hsz : s.heap.objs.size ≤ s.heap.objs.size + 1 := Nat.le_succ _
  have hn : H (s.heap.objs.size + 1) = none := I.hok.fresh hsz
  -- what the class's __init__ is asked
  have hsp : spX (He.ga X.K c) fm fl (V.ref (s.heap.objs.size + 1) :: vs) (upd H (s.heap.objs.size + 1) (exo (s.heap.objs.size + 1) (He.ga X.K c) none)) (fun v H2 => v = .non ∧ Q (.ref (s.heap.objs.size + 1)) H2) (WE W σ) := by
    generalize s.heap.objs.size + 1 = a at hn
    obtain ⟨h1, x1, s1⟩ := ha.newF (o := exo a (He.ga X.K c) none) hn
    cases fl with
    | none =>
      cases ds with
      | nil =>
        have e : vs = [] := rl
        subst e
        exact ⟨a, rfl, upd_same, rfl, p _ io _ _ h1 x1 ⟨a, none, [], rfl, upd_same, rfl, rfl, rfl⟩⟩
      | cons d ds => exact p.elim
    | some f =>
      cases ds with
      | nil => exact p.elim
      | cons d ds =>
        cases ds with
        | cons d2 ds => exact p.elim
        | nil =>
          obtain ⟨x, l, e, rd, e2⟩ := (show ∃ v r, vs = v :: r ∧ Rel X.K F io d v ∧ RelL X.K F io [] r from rl)
          have e2 : l = [] := e2
          subst e2
          subst e
          have p2 : PostE X.K W F io H σ Q (.ok (.val (.exo c [f] [d])) M) ∧ (fm = true → Fmt x) := by
            unfold mkExo at p
            dsimp only at p
            split at p
            · split at p
              · rename_i hf
                exact ⟨p, fun _ => fmD_rel rd hf⟩
              · exact p.elim
            · rename_i hf
              exact ⟨p, fun z => absurd z hf⟩
          refine ⟨a, x, rfl, p2.2, upd_same, fun dx hdx ne => ⟨rfl, ?_⟩⟩
          -- the heap with the exception and its dict
          have hdx' : H dx = none := by
            rw [upd_ne ne] at hdx
            exact hdx
          have eq : upd (upd (upd H a (exo a (He.ga X.K c) none)) dx (exd dx [(f, x)])) a (exo a (He.ga X.K c) (some dx)) = upd (upd H dx (exd dx [(f, x)])) a (exo a (He.ga X.K c) (some dx)) := by
            funext b
            by_cases hb : b = a
            · rw [hb, upd_same, upd_same]
            · rw [upd_ne hb, upd_ne hb]
              by_cases hd : b = dx
              · rw [hd, upd_same, upd_same]
              · rw [upd_ne hd, upd_ne hd, upd_ne hb]
          rw [eq]
          obtain ⟨g1, y1, t1⟩ := ha.newF (o := exd dx [(f, x)]) hdx'
          have hn2 : upd H dx (exd dx [(f, x)]) a = none := by
            rw [upd_ne (Ne.symm ne)]
            exact hn
          obtain ⟨g2, y2, t2⟩ := g1.newF (o := exo a (He.ga X.K c) (some dx)) hn2
          refine p2.1 _ io _ _ g2 (y1.trans y2) ⟨a, some dx, [(f, x)], rfl, upd_same, ?_, rfl, ⟨x, [], rfl, Rel.mono (t1.trans t2) (fun _ _ z => z) d x rd, rfl⟩⟩
          show upd (upd F dx (exd dx [(f, x)])) a (exo a (He.ga X.K c) (some dx)) dx = _
          rw [upd_ne ne, upd_same]
  have hus : us.length ≤ sizeLine := by
    rw [← r.length, sizeLine_eq]
    have z := spX_len _ _ _ _ hsp
    rw [List.length_cons] at z
    cases fl <;> (have z : _ = _ := z; unfold nOf at z; simp only at z; omega)
  have r2 : Vals (V.ref (s.heap.objs.size + 1) :: vs) (Value.ref (s.heap.objs.size + 1) :: us) := .cons rfl r
  have hl2 : (Value.ref (s.heap.objs.size + 1) :: us).length = ps.length := by rw [← r2.length]; exact Fn.len _ _ _ _ hsp
  obtain ⟨hp, g, dr, tk0, os⟩ := s
  have kk : ∀ b o, hp.get? b = some o → ((hp.push (PySem.W.kdv_tup us)).push (PySem.HandSPX.excO (He.ga X.K c) hp.objs.size)).get? b = some o := fun b o e => Heap.get?_push_of_some _ (Heap.get?_push_of_some _ e)
  have hget : ((hp.push (PySem.W.kdv_tup us)).push (PySem.HandSPX.excO (He.ga X.K c) hp.objs.size)).get? (hp.objs.size + 1) = some (PySem.HandSPX.excO (He.ga X.K c) hp.objs.size) := by heap_get
  have I2 : Inv X pins σ (upd H (hp.objs.size + 1) (exo (hp.objs.size + 1) (He.ga X.K c) none)) ⟨(hp.push (PySem.W.kdv_tup us)).push (PySem.HandSPX.excO (He.ga X.K c) hp.objs.size), g, dr, tk0, os⟩ :=
    I.laid (t' := tk0) (a := hp.objs.size + 1) (o := exo (hp.objs.size + 1) (He.ga X.K c) none) (h' := (hp.push (PySem.W.kdv_tup us)).push (PySem.HandSPX.excO (He.ga X.K c) hp.objs.size)) kk hsz (exo_ok hget)
  have bb := bd _ (Value.ref (hp.objs.size + 1) :: us) I2.kIn (by rw [List.append_nil]; exact hl2)
  rw [List.append_nil] at bb
  refine wpAny_call (PySem.HandSPX.call_own PySem.F.excBase_ValueError (fun Y => PySem.HandSPX.refsVE_contains Y bm hbm) (I.kIn _ _ hC) (PySem.W.looks_findIn I.kIn iC) (fun self => PySem.W.bind_fn I.kIn self tI) hus
    (codeAny_mono (Fn.run _ X.stack _ _ ⟨Value.ref (hp.objs.size + 1) :: us, []⟩ (Value.ref (hp.objs.size + 1) :: us) _ _ (WE W σ) (guards_make.trans gd) (hr.make _ us []) (I2.env0.make _ us []) bb r2 hsp) fun r s' hq' => ?_))
  cases r with
  | error e => exact passAt tk σ pins _ _ e s' I2 hq'
  | ok fl =>
    cases fl with
    | ret u =>
      obtain ⟨v, H', I3, rv, ev, q3⟩ := I2.after hq'
      subst ev
      exact ⟨rv, ⟨V.ref (hp.objs.size + 1), H', I3, rfl, q3⟩⟩
    | next => exact False.elim hq'
    | brk => exact False.elim hq'
    | cont => exact False.elim hq'
theorem pm_exo {c : Str} {lev : Nat} {fm : Bool} {fl : Option Str} {ms : MDs} (T : ExaOk X.prog X.K (He.ga X.K c) fm fl) (gd : X.A.guards = some []) (hr : Room (lev + 1) X.A) (tk : Takes X W) (hg : Gl X c) (hm : X.mg c = some (.ref (He.ga X.K c)))
    (hd : (c == ("__debug__" : Str)) = false) (hn : es.all noStar = true) (hms : es = [] → ms = mNil) (ha : PA X es (tDs X.K W ms)) : PE X (.Call (.Name c p) es [] pos) (tE X.K W (mExo c fm fl ms)) :=
  pm_global hg (.inl hm) hd (.inl (PySem.W.keeps_K T.T.kC)) hn hms ha fun pins s σ H Q us vs ds M F' io I r a rl p => run_exo T gd hr tk I r a rl p
end
end Pc

set_option Elab.async false
set_option linter.all false
set_option maxRecDepth 100000
set_option maxHeartbeats 2000000
set_option autoImplicit false
/-! PcX6: e.f of an exception, isinstance -/
namespace Pc
open PySem PySem.Spec PyProof.Rows L2
def attrX (ok okx : Str → Str → Bool) (f : Str) (d : D) (M : Mem) : R RV := match d with
  | .exo c ns ds => if okx c f = true then oV (lookD ns ds f) M else .stuck
  | d => attrS ok f d M
def mAttrX (ok okx : Str → Str → Bool) (f : Str) (m : ME) : ME := fun env M => (mD m env M).bind fun d M1 => attrX ok okx f d M1
section
variable {X : Cx} {W : WX}
theorem getexo_ok {pins : List (Addr × Obj)} {σ : St} {H : Hp} {s : Shared} {a C : Addr} {od : Option Addr} {fs : List (Str × V)} {v : V} {f : Str} {b : Bool} {Q : Value → Shared → Prop} {E : Value → Shared → Prop} (T : XfC X.K C) (hno : PySem.W.findIn X.K (.ref C) f = some none)
    (I : Inv X pins σ H s) (e : H a = some (exo a C od)) (x : ExD H od fs) (l : fs.lookup f = some v) (h : ∀ u s', Inv X pins σ H s' → RelV v u → Q u s') : wpAny (model X.prog X.w) X.A (getAttr (.ref a) f b) Q E s := by
  cases od with
  | none =>
    have x : fs = [] := x
    subst x
    cases l
  | some dx =>
    have x : H dx = some (exd dx fs) := x
    obtain ⟨t1, ho⟩ := exo_at I.hok e
    obtain ⟨mA, hns, hr⟩ := exd_at I.hok x
    obtain ⟨oD, ho2, hl⟩ := lookIn_ns hns
    obtain ⟨u, hu, ru⟩ := RelO.some_of (v := v) (o := mA f) (by rw [← l]; exact hr f)
    have J : PySem.W.InstAt s.heap a _ C (some oD) := ⟨ho, rfl, rfl, ho2⟩
    exact PySem.HandSPX.exc_get I.kIn J T.ga T.gg T.exC (PySem.W.findObj_own T.hdC hno rfl (by rw [hl, hu])) (handed_of ru) (h u _ (I.tok _) ru)
theorem pm_attrX {ok okx : Str → Str → Bool} {f : Str} {e : Expr} {m : ME} {pos : Pos} (hok : ∀ c, ok c f = true → Cls X.K (He.ga X.K c) ∧ NoAttr X.K (He.ga X.K c) f)
    (hox : ∀ c, okx c f = true → XfC X.K (He.ga X.K c) ∧ PySem.W.findIn X.K (.ref (He.ga X.K c)) f = some none) (he : PE X e (tE X.K W m)) (hn : notSuper e = true) : PE X (.Attribute e f pos) (tE X.K W (mAttrX ok okx f m)) := by
  refine ⟨fun pins s σ H Q I h => ?_⟩
  have hd := tD_bind (r := fun x H1 => ∃ d M1 F1 io1, HA X.K F1 io1 H1 M1 ∧ Rel X.K F1 io1 d x ∧ PostE X.K W F1 io1 H1 σ Q (attrX ok okx f d M1)) h fun d M1 F1 io1 H1 x env a er r p => ⟨d, M1, F1, io1, a, r, p⟩
  refine attr_of (base_of hn f X.env _) (thn ((pe_d he).run pins s σ H _ I hd) fun u s1 hh => ?_)
  obtain ⟨x, H1, I1, rx, d, M1, F1, io1, a, r, p⟩ := hh
  unfold attrX at p
  split at p
  · rename_i c ns ds
    split at p
    · rename_i ho
      obtain ⟨d', e', p'⟩ := oV_some p
      clear p
      obtain ⟨l, od, fvs, rfl, q, ex, rfl, rl⟩ := (show ∃ a od fvs, x = V.ref a ∧ F1 a = some (exo a (He.ga X.K c) od) ∧ ExD F1 od fvs ∧ fvs.map (·.1) = ns ∧ RelL X.K F1 io1 ds (fvs.map (·.2)) from r)
      obtain rfl : u = Value.ref l := rx
      obtain ⟨v, hv, rv⟩ := (lookD_lookup (f := f) rl).1 d' e'
      obtain ⟨T, hno⟩ := hox c ho
      exact getexo_ok T hno I1 (a.sub _ _ q) (ex.mono a.sub) hv fun u' s2 I2 ru => ⟨v, H1, I2, ru, post_val p' a rv⟩
    · exact p.elim
  · unfold attrS at p
    split at p
    · rename_i c ns ds hi
      split at p
      · rename_i ho
        obtain ⟨d', e', p'⟩ := oV_some p
        clear p
        obtain ⟨l, dx, fs, rfl, q, rfl, rl⟩ := a.ins r hi
        obtain rfl : u = Value.ref l := rx
        obtain ⟨v, hv, rv⟩ := (lookD_lookup (f := f) rl).1 d' e'
        exact getattr_ok I1 q (hok c ho).1 (hok c ho).2 hv fun u' s2 I2 ru => ⟨v, H1, I2, ru, post_val p' a rv⟩
      · exact p.elim
    · exact p.elim
end
/-! ### isinstance -/
/-- what is asked of an exception class -/
structure XkC (K : PySem.W.Frag) (C : Addr) : Prop where
  cl : (PySem.W.clsIn K C).isSome = true
  ga : PySem.W.findIn K (.ref C) "__getattribute__" = some (some (.builtin "BaseException.__getattribute__"))
  gt : PySem.W.findIn K (.ref C) "__getattr__" = some none
  su : PySem.W.subIn K (.ref C) (.type "BaseException") = some true
  ha : PySem.W.findIn K (.ref C) "__class__" = some (some (.builtin "object.__class__"))
  hn : PySem.W.specialIn K (.builtin "object.__class__") "__get__" = some (some (.builtin "getset_descriptor.__get__"))
  ht : PySem.W.takesIn K (.builtin "object.__class__") = some true
  hm : PySem.W.mroIn K C (.type "object") = some true
/-- .. of an own class -/
structure OkC (K : PySem.W.Frag) (C : Addr) : Prop where
  cl : Cls K C
  ha : PySem.W.findIn K (.ref C) "__class__" = some (some (.builtin "object.__class__"))
  hn : PySem.W.specialIn K (.builtin "object.__class__") "__get__" = some (some (.builtin "getset_descriptor.__get__"))
  ht : PySem.W.takesIn K (.builtin "object.__class__") = some true
  hm : PySem.W.mroIn K C (.type "object") = some true
inductive TyG (K : PySem.W.Frag) (H : Hp) : V → Value → Prop where
  | base {x : V} {t : Value} (h : TyX K H x t) : TyG K H x t
  | exc {a C : Addr} {od : Option Addr} {fs : List (Str × V)} (e : H a = some (exo a C od)) (x : ExD H od fs) (c : XkC K C) : TyG K H (.ref a) (.ref C)
section
variable {X : Cx} {pins : List (Addr × Obj)} {σ : St} {H : Hp} {s : Shared}
theorem kit_ofG {x : V} {u t : Value} (I : Inv X pins σ H s) (rx : RelV x u) (ty : TyG X.K H x t) : ∃ P : Heap → Prop, PySem.W.KitX X.K u t P ∧ P s.heap ∧ u ≠ .builtin "__main__.__loader__#opaque" := by
  cases ty with
  | base h => exact kit_of I rx h
  | @exc a C od fs e x c =>
    cases (show u = Value.ref a from rx)
    obtain ⟨t1, ho⟩ := exo_at I.hok e
    cases od with
    | none => exact ⟨_, PySem.W.kitx_exc (od := none) c.cl c.ga c.gt c.su c.ha c.hn c.ht c.hm, ⟨ho, rfl, rfl, True.intro⟩, fun z => nomatch z⟩
    | some dx =>
      have x : H dx = some (exd dx fs) := x
      obtain ⟨mA, hns, hr⟩ := exd_at I.hok x
      obtain ⟨oD, ho2, hl⟩ := lookIn_ns hns
      exact ⟨_, PySem.W.kitx_exc (od := some oD) c.cl c.ga c.gt c.su c.ha c.hn c.ht c.hm, ⟨ho, rfl, rfl, ho2⟩, fun z => nomatch z⟩
end
def rIsiG (K : PySem.W.Frag) : List V → Hp → VK → Prop := fun xs H Q => ∃ (x c : V) (t u : Value) (b : Bool), xs = [x, c] ∧ ClsV c u ∧ TyG K H x t ∧ PySem.W.kitOne K t u = some b ∧ Q (.bl b) H
theorem call_isiG {X : Cx} : CallR X (.builtin "isinstance") (rIsiG X.K) := by
  intro pins s σ H xs us Q I r h
  obtain ⟨x, c, t, u, b, rfl, k, ty, e, q⟩ := h
  obtain ⟨u1, u2, rfl, r1, r2⟩ := vals2 r
  have e2 := k.eq r2
  subst e2
  obtain ⟨P, Z, p, hx⟩ := kit_ofG I r1 ty
  exact PySem.W.kia_one Z I.kIn p e hx fun tk => ⟨.bl b, H, I.tok tk, rfl, q⟩
/-- a value's kind: 0..6: None, bool, int, str, tuple, list, dict; 7: an own class; 8: an exception class -/
abbrev Kd := Nat × Str
def knd (M : Mem) : D → Option Kd
  | .non => some (0, "")
  | .bl _ => some (1, "")
  | .int _ => some (2, "")
  | .str _ => some (3, "")
  | .tup _ => some (4, "")
  | .ctup _ => some (4, "")
  | .lst _ => some (5, "")
  | .scr _ => some (5, "")
  | .dic _ _ => some (6, "")
  | .dit _ _ => some (6, "")
  | .obj c _ _ => some (7, c)
  | .exo c _ _ => some (8, c)
  | .fn _ => none
  | .ref i => match M[i]? with
    | some (.lst _) => some (5, "")
    | some (.dk _ _) => some (6, "")
    | some (.dt _ _) => some (6, "")
    | some (.ins c _ _) => some (7, c)
    | none => none
def tyV (K : PySem.W.Frag) : Kd → Value
  | (0, _) => .type "NoneType"
  | (1, _) => .type "bool"
  | (2, _) => .type "int"
  | (3, _) => .type "str"
  | (4, _) => .type "tuple"
  | (5, _) => .type "list"
  | (6, _) => .type "dict"
  | (_, c) => .ref (He.ga K c)
def KdOk (K : PySem.W.Frag) (k : Kd) : Prop := (k.1 = 7 → OkC K (He.ga K k.2)) ∧ (k.1 = 8 → XkC K (He.ga K k.2))
section
variable {K : PySem.W.Frag} {F H : Hp} {io : List Addr} {M : Mem}
theorem knd_sql {a : Addr} {vs : List V} (q : SqL K H a vs) : TyG K H (.ref a) (.type "list") := by
  rcases q with (q | ⟨o, q⟩) | ⟨o, its, n, hk, h1, _⟩
  · exact .base (.base (.lst q))
  · exact .base (.base (.frz q))
  · exact .base (.kList hk h1)
theorem knd_sqt {a : Addr} {vs : List V} (q : SqT K H a vs) : TyG K H (.ref a) (.type "tuple") := by
  rcases q with (q | ⟨o, q⟩) | ⟨o, its, n, hk, h1, _⟩
  · exact .base (.base (.tup q))
  · exact .base (.fTuple q)
  · exact .base (.kTuple hk h1)
theorem knd_ok {d : D} {v : V} {k : Kd} (h : HA K F io H M) (r : Rel K F io d v) (e : knd M d = some k) (ok : KdOk K k) : TyG K H v (tyV K k) := by
  cases d with
  | non => cases e; obtain rfl : v = V.non := r; exact .base (.base .non)
  | bl b => cases e; obtain rfl : v = V.bl b := r; exact .base (.base (.bl b))
  | int b => cases e; obtain rfl : v = V.int b := r; exact .base (.base (.int b))
  | str b => cases e; obtain rfl : v = V.str b := r; exact .base (.base (.str b))
  | tup xs =>
    cases e
    obtain ⟨a, vs, rfl, q, _⟩ := (show ∃ a vs, v = V.ref a ∧ F a = some (.tup vs) ∧ RelL K F io xs vs from r)
    exact .base (.base (.tup (h.sub _ _ q)))
  | ctup xs =>
    cases e
    obtain ⟨a, vs, rfl, q, _⟩ := (show ∃ a vs, v = V.ref a ∧ SqT K F a vs ∧ RelL K F io xs vs from r)
    exact knd_sqt (SqT.mono h.sub q)
  | lst xs =>
    cases e
    obtain ⟨a, vs, rfl, q, _⟩ := (show ∃ a vs, v = V.ref a ∧ F a = some (.lst vs) ∧ RelL K F io xs vs from r)
    exact .base (.base (.lst (h.sub _ _ q)))
  | scr ns =>
    cases e
    obtain ⟨a, rfl, q⟩ := (show ∃ a, v = V.ref a ∧ SqL K F a (ns.map V.int) from r)
    exact knd_sql (Same.seq h.sub q)
  | dic ks ds =>
    cases e
    obtain ⟨a, kvs, rfl, q, _⟩ := (show ∃ a kvs, v = V.ref a ∧ F a = some (.dK kvs) ∧ kvs.map (·.1) = ks ∧ RelL K F io ds (kvs.map (·.2)) from r)
    exact .base (.base (.dK (h.sub _ _ q)))
  | dit ks ds =>
    cases e
    obtain ⟨a, kvs, rfl, q, _⟩ := (show ∃ a kvs, v = V.ref a ∧ F a = some (.dT kvs) ∧ kvs.map (·.1) = ks ∧ RelL K F io ds (kvs.map (·.2)) from r)
    exact .base (.base (.dT (h.sub _ _ q)))
  | obj c ns ds =>
    cases e
    obtain ⟨a, dx, fvs, rfl, q, _⟩ := (show ∃ a dx fvs, v = V.ref a ∧ F a = some (.ins (He.ga K c) dx fvs) ∧ fvs.map (·.1) = ns ∧ RelL K F io ds (fvs.map (·.2)) from r)
    have c := ok.1 rfl
    exact .base (.base (.ins (h.sub _ _ q) c.cl c.ha c.hn c.ht c.hm))
  | exo c ns ds =>
    cases e
    obtain ⟨a, od, fvs, rfl, q, x, _⟩ := (show ∃ a od fvs, v = V.ref a ∧ F a = some (exo a (He.ga K c) od) ∧ ExD F od fvs ∧ fvs.map (·.1) = ns ∧ RelL K F io ds (fvs.map (·.2)) from r)
    exact .exc (h.sub _ _ q) (x.mono h.sub) (ok.2 rfl)
  | fn x => cases e
  | ref i =>
    obtain ⟨a, rfl, q⟩ := (show ∃ a, v = V.ref a ∧ io[i]? = some a from r)
    rw [knd] at e
    cases hm : M[i]? with
    | none => rw [hm] at e; cases e
    | some o =>
      rw [hm] at e
      obtain ⟨a', e1, e2, e3⟩ := h.at_ i _ hm
      rw [q] at e1
      cases e1
      cases o with
      | lst xs =>
        cases e
        obtain ⟨vs, q2, _⟩ := e3
        exact .base (.base (.lst q2))
      | dk ks ds =>
        cases e
        obtain ⟨vs, q2, _⟩ := e3
        exact .base (.base (.dK q2))
      | dt ks ds =>
        cases e
        obtain ⟨vs, q2, _⟩ := e3
        exact .base (.base (.dT q2))
      | ins c ns ds =>
        cases e
        obtain ⟨dx, vs, q2, _⟩ := e3
        have c := ok.1 rfl
        exact .base (.base (.ins q2 c.cl c.ha c.hn c.ht c.hm))
end
/-- a class as it is named -/
def ClsN (K : PySem.W.Frag) (mg : Str → Option Value) (c : Str) (u : Value) : Prop := (u = .ref (He.ga K c) ∧ mg c = some u) ∨ (∃ T : String, u = .type T ∧ mg c = none ∧ bootBuiltins c = some u ∧ c ≠ "__name__")
def mIsi (t : Kd → Option Bool) (m : ME) : ME := fun env M => (mD m env M).bind fun d M1 => match (knd M1 d).bind t with
  | some b => .ok (.val (.bl b)) M1
  | none => .stuck
section
variable {X : Cx} {W : WX}
theorem pm_isi {c : Str} {e : Expr} {m : ME} {t : Kd → Option Bool} {p pc pos : Pos} (hg : Gl X "isinstance") (hm : X.mg "isinstance" = none) (hc : ∃ u, ClsN X.K X.mg c u) (hgc : Gl X c) (hdc : (c == ("__debug__" : Str)) = false) (he : PE X e (tE X.K W m)) (hn : noStar e = true)
    (ht : ∀ k b, t k = some b → KdOk X.K k ∧ ∃ u, ClsN X.K X.mg c u ∧ PySem.W.kitOne X.K (tyV X.K k) u = some b) : PE X (.Call (.Name "isinstance" p) [e, .Name c pc] [] pos) (tE X.K W (mIsi t m)) := by
  obtain ⟨u, hu⟩ := hc
  have one : ∀ u', ClsN X.K X.mg c u' → u' = u := fun u' h' => by
    rcases hu with ⟨rfl, h1⟩ | ⟨T, rfl, h1, h2, _⟩ <;> rcases h' with ⟨rfl, g1⟩ | ⟨T', rfl, g1, g2, _⟩
    · rfl
    · rw [h1] at g1; cases g1
    · rw [h1] at g1; cases g1
    · rw [h2] at g2; exact (Option.some.inj g2).symm
  have hv : ∃ v, ClsV v u ∧ PE X (.Name c pc) (tC v) := by
    rcases hu with ⟨rfl, h1⟩ | ⟨T, rfl, h1, h2, h3⟩
    · exact ⟨.ref _, .own _, pe_glob hgc h1 rfl hdc⟩
    · exact ⟨.ty T, .ty T, pe_bltn hgc h1 h2 rfl h3 hdc⟩
  obtain ⟨v, hv1, hv2⟩ := hv
  have ha : PA X [e, .Name c pc] (tCons (tD X.K W (mD m)) (tCons (tC v) tNil)) := pa_cons (pe_d he) (pa_cons hv2 pa_nil (by rfl)) (star_cons hn _ _)
  refine PE.imp' (pe_callB call_isiG hg hm (by rfl) ha (by decide) (by decide) (star_cons hn _ _) (by rfl)) fun σ H Q h => ?_
  refine tD_bind h fun d M1 F1 io1 H1 x env a er r p => ?_
  cases hk : (knd M1 d).bind t with
  | none => rw [hk] at p; exact p.elim
  | some b =>
    rw [hk] at p
    obtain ⟨k, h1, h2⟩ := Option.bind_eq_some_iff.mp hk
    obtain ⟨ok, u', hu', hb⟩ := ht k b h2
    obtain rfl := one u' hu'
    exact ⟨x, v, _, _, b, rfl, hv1, knd_ok a r h1 ok, hb, post_val p a rfl⟩
end
end Pc

set_option Elab.async false
set_option linter.all false
set_option maxRecDepth 100000
set_option maxHeartbeats 2000000
set_option autoImplicit false
/-! PcEn: enumerate over a tuple -/
namespace PcEn
open PySem
open PySem.Sem (wp)
section
variable {prog : Program} {w : World} {A : Around} {E : Value → Shared → Prop} {s : Shared}
/-- one turn, whatever the inner iterator is: T its state, behind the step T' -/
theorem next_item {e it : Addr} {i : Nat} {x old : Value} {T T' : Heap → Prop} {Q : Value → Shared → Prop}
    (step : ∀ R : Value → Shared → Prop, (∀ h', T' h' → Heap.SameBut it s.heap h' → R x { s with heap := h' }) → wpAny (model prog w) A (Builtin.SmallTypes.nextOf (.ref it)) R E s)
    (stay : ∀ h h' : Heap, T' h → (∀ o, h.get? it = some o → h'.get? it = some o) → T' h') (he : IsEnum s.heap e it i old) (hit : ∃ o, s.heap.get? it = some o) (hne : e ≠ it)
    (hQ : ∀ h', IsEnumOut h' e it ((i : Int) + 1) x s.heap.objs.size → T' h' →
      h'.get? s.heap.objs.size = some { cls := .type "tuple", data := .seq #[.int i s.toks, x] } → h'.objs.size = s.heap.objs.size + 1 →
      (∀ b o, b ≠ e → b ≠ it → s.heap.get? b = some o → h'.get? b = some o) → Q (.ref s.heap.objs.size) { s with heap := h', toks := s.toks + 1 }) :
    wpAny (model prog w) A (Builtin.«enumerate.__next__» ⟨[.ref e], []⟩) (fun fin s' => ∃ v, fin = .done (.ret v) ∧ Q v s') E s := by
  obtain ⟨hp, g, d, tk, os⟩ := s
  show wpAny _ _ (field (.ref e) 2 >>= _) _ _ _
  refine wpAny_bind (wpAny_field he rfl (x := .ref it) rfl (wpAny_bind (step _ fun h1 t1 s1 => ?_)))
  have e1 : IsEnum h1 e it i old := (s1.2 e hne).trans he
  show wpAny _ _ (field (.ref e) 3 >>= _) _ _ ⟨h1, g, d, tk, os⟩
  refine wpAny_bind (wpAny_field e1 rfl (x := rawInt i) rfl ?_)
  show wpAny _ _ (field (.ref e) 4 >>= _) _ _ ⟨h1, g, d, tk, os⟩
  refine wpAny_bind (wpAny_field e1 rfl (x := .none) rfl ?_)
  show wpAny _ _ (mkInt i >>= _) _ _ ⟨h1, g, d, tk, os⟩
  refine wpAny_bind (wpAny_mkInt ?_)
  show wpAny _ _ (setField (.ref e) 3 (rawInt ((i : Int) + 1)) >>= _) _ _ ⟨h1, g, d, tk + 1, os⟩
  refine wpAny_bind (wpAny_setField_rec e1 (by simp) fun h2 (e2 : IsEnum h2 e it ((i : Int) + 1) old) (s2 : Heap.SameBut e h1 h2) => ?_)
  show wpAny _ _ (setField (.ref e) 4 .none >>= _) _ _ ⟨h2, g, d, tk + 1, os⟩
  refine wpAny_bind (wpAny_setField_rec e2 (by simp) fun h3 (e3 : IsEnum h3 e it ((i : Int) + 1) old) (s3 : Heap.SameBut e h2 h3) => ?_)
  show wpAny _ _ (newTuple [.int i tk, x] >>= _) _ _ ⟨h3, g, d, tk + 1, os⟩
  refine wpAny_bind (wpAny_newTuple ?_)
  have sz : h3.objs.size = hp.objs.size := by rw [s3.1, s2.1, s1.1]
  have el : e < hp.objs.size := Heap.lt_size he
  have e4 : IsEnum (h3.push { cls := .type "tuple", data := .seq #[.int i tk, x] }) e it ((i : Int) + 1) old := Heap.get?_push_of_some _ e3
  have t4 : T' (h3.push { cls := .type "tuple", data := .seq #[.int i tk, x] }) := stay _ _ t1 fun o q => Heap.get?_push_of_some _ (s3.extBut it o (Ne.symm hne) (s2.extBut it o (Ne.symm hne) q))
  have q4 : (h3.push { cls := .type "tuple", data := .seq #[.int i tk, x] }).get? hp.objs.size = some { cls := .type "tuple", data := .seq #[.int i tk, x] } := by rw [← sz]; exact Heap.get?_push_size _ rfl
  have z4 : (h3.push { cls := .type "tuple", data := .seq #[.int i tk, x] }).objs.size = hp.objs.size + 1 := by rw [Heap.size_push, sz]
  have k4 : ∀ b o, b ≠ e → b ≠ it → hp.get? b = some o → (h3.push { cls := .type "tuple", data := .seq #[.int i tk, x] }).get? b = some o := fun b o n1 n2 q =>
    Heap.get?_push_of_some _ (s3.extBut b o n1 (s2.extBut b o n1 (s1.extBut b o n2 q)))
  rw [sz]
  generalize h3.push { cls := .type "tuple", data := .seq #[.int i tk, x] } = h4 at e4 t4 q4 z4 k4
  show wpAny _ _ (Builtin.SmallTypes.ownedTupleIsFree (.ref e) >>= _) _ _ ⟨h4, g, d, tk + 1, os⟩
  refine wpAny_bind ?_
  unfold Builtin.SmallTypes.ownedTupleIsFree
  refine wpAny_bind (wpAny_field e4 rfl (x := .none) rfl (wpAny_pure ?_))
  simp only [if_true]
  refine wpAny_bind (wpAny_rule (wpAny_bind (wpAny_field e4 rfl (x := old) rfl ?_)))
  refine wpAny_bind (wpAny_setField_rec e4 (by simp) fun h5 (e5 : IsEnum h5 e it ((i : Int) + 1) x) (s5 : Heap.SameBut e h4 h5) => ?_)
  show wpAny _ _ (Builtin.SmallTypes.ownedTupleHandOut (.ref e) (.ref hp.objs.size) >>= _) _ _ ⟨h5, g, d, tk + 1, os⟩
  refine wpAny_bind ?_
  unfold Builtin.SmallTypes.ownedTupleHandOut
  refine wpAny_bind (wpAny_setField_rec e5 (by simp) fun h6 (e6 : IsEnumOut h6 e it ((i : Int) + 1) x hp.objs.size) (s6 : Heap.SameBut e h5 h6) => ?_)
  refine wpAny_setField_rec e6 (by simp) fun h7 (e7 : IsEnumOut h7 e it ((i : Int) + 1) x hp.objs.size) (s7 : Heap.SameBut e h6 h7) => ?_
  have up : ∀ b o, b ≠ e → h4.get? b = some o → h7.get? b = some o := fun b o n q => s7.extBut b o n (s6.extBut b o n (s5.extBut b o n q))
  exact wpAny_bind (wpAny_letGo (wpAny_pure ⟨_, rfl, hQ h7 e7 (stay _ _ t4 fun o q => up it o (Ne.symm hne) q) (up _ _ (Nat.ne_of_gt el) q4) (by rw [s7.1, s6.1, s5.1, z4]) fun b o n1 n2 q => up b o n1 (k4 b o n1 n2 q)⟩))
theorem pyNext_item {e it l : Addr} {i : Nat} {items : Array Value} {x old : Value} {Q : Option Value → Shared → Prop}
    (he : IsEnum s.heap e it i old) (hit : s.heap.IsTupleIter it l i) (hl : s.heap.IsTuple l items) (hx : items[i]? = some x) (hne : e ≠ it)
    (hQ : ∀ h', IsEnumOut h' e it ((i : Int) + 1) x s.heap.objs.size → h'.IsTupleIter it l (i + 1) →
      h'.get? s.heap.objs.size = some { cls := .type "tuple", data := .seq #[.int i s.toks, x] } → h'.objs.size = s.heap.objs.size + 1 →
      (∀ b o, b ≠ e → b ≠ it → s.heap.get? b = some o → h'.get? b = some o) → Q (some (.ref s.heap.objs.size)) { s with heap := h', toks := s.toks + 1 }) :
    wpAny (model prog w) A (pyNext (.ref e)) Q E s := by
  have hT : s.TypeIs (.ref e) "enumerate" := ⟨_, he, rfl⟩
  obtain ⟨o, ho, _⟩ := id hit
  unfold pyNext
  exact wpAny_bind (wpAny_attempt (wpAny_callSpecial?_slot (name := Str.ofString "__next__") hT F.slot_enumerate_next
    (wpAny_call_entry F.slot_enumerate_next hT F.entry_enumerate_next
      (next_item (T := fun h => h.IsTupleIter it l i) (T' := fun h => h.IsTupleIter it l (i + 1)) (fun R hR => RZ.nextOf_tuple_item hit hl hx hR) (fun h h' t k => t.at fun o q => k o q) he ⟨o, ho⟩ hne fun h' a b c d k => wpAny_pure (hQ h' a b c d k)) (F.args_enumerate_next_1 _))))
theorem pyNext_end {e it l : Addr} {i : Nat} {items : Array Value} {old : Value} {Q : Option Value → Shared → Prop} (hh : A.handled = none)
    (he : IsEnum s.heap e it i old) (hit : s.heap.IsTupleIter it l i) (hl : s.heap.IsTuple l items) (hx : items[i]? = none)
    (hQ : ∀ h', Heap.ExtBut it s.heap h' → Q none { s with heap := h' }) : wpAny (model prog w) A (pyNext (.ref e)) Q E s := by
  have hT : s.TypeIs (.ref e) "enumerate" := ⟨_, he, rfl⟩
  unfold pyNext
  refine wpAny_bind (wpAny_attempt (wpAny_callSpecial?_slot (name := Str.ofString "__next__") hT F.slot_enumerate_next
    (wpAny_call_entry F.slot_enumerate_next hT F.entry_enumerate_next ?_ (F.args_enumerate_next_1 _))))
  show wpAny _ _ (field (.ref e) 2 >>= _) _ _ _
  refine wpAny_bind (wpAny_field he rfl (x := .ref it) rfl (wpAny_bind (RZ.nextOf_tuple_end hh hit hl hx fun h' x he' hx' => ?_)))
  obtain ⟨o, ho, hc⟩ := hx'
  exact wpAny_bind (wpAny_isInstance (T := "StopIteration") (b := true) ⟨o, ho, hc⟩ isSubtype_stop (wpAny_pure (hQ _ he')))
theorem meets_new (l : Addr) (items : Array Value) :
    Meets (Builtin.«enumerate.__new__» ⟨[.type "enumerate", .ref l], []⟩) (fun _ R s => s.heap.IsTuple l items ∧
      R (.ok (.ret (.ref (s.heap.push { cls := .type "tuple_iterator", data := .fields #[.ref l, .int 0 0] }).objs.size)))
        { s with heap := (s.heap.push { cls := .type "tuple_iterator", data := .fields #[.ref l, .int 0 0] }).push { cls := .type "enumerate", data := .fields #[.none, .bool false, .ref s.heap.objs.size, rawInt 0, .none, .none] } }) :=
  .of_wp fun prog w A R s h => by
    obtain ⟨hp, g, d, tk, os⟩ := s; obtain ⟨hl, h⟩ := h
    have hsub := sub_enumerate
    have hL : Heap.IsTuple (Shared.heap ⟨hp, g, d, tk, os⟩) l items := hl
    wp_walk using wpAny_pyIter_tuple hL
    refine wpAny_stack_any fun st => wpAny_pure ?_
    split
    · rename_i c _ _ _ _ _
      cases (c == Value.type "enumerate")
      · wp_walk using wpAny_pyIter_tuple hL
        exact ⟨_, rfl, h⟩
      · wp_walk using wpAny_pyIter_tuple hL
        exact ⟨_, rfl, h⟩
    · wp_walk using wpAny_pyIter_tuple hL
      exact ⟨_, rfl, h⟩
theorem call_enum {l : Addr} {items : Array Value} {Q : Value → Shared → Prop} (hL : s.heap.IsTuple l items)
    (h : ∀ h', IsEnum h' (s.heap.objs.size + 1) s.heap.objs.size 0 .none → h'.IsTupleIter s.heap.objs.size l 0 → h'.objs.size = s.heap.objs.size + 2 →
      (∀ b o, s.heap.get? b = some o → h'.get? b = some o) → Q (.ref (s.heap.objs.size + 1)) { s with heap := h' }) :
    wpAny (model prog w) A (call (.type "enumerate") [.ref l]) Q E s := by
  refine callType_new F.called_enumerate (by decide) (F.typeCall_enumerate_1 _) (F.newCall_enumerate_1 _) (fun obj => F.args_object_init_2 obj _) F.entry_enumerate_new
    (meets_new l items) ⟨hL, ?_⟩
  have hz : (s.heap.push { cls := .type "tuple_iterator", data := .fields #[.ref l, .int 0 0] }).objs.size = s.heap.objs.size + 1 := Heap.size_push ..
  show _ ∧ _
  rw [hz]
  have he := Heap.get?_push_size (s.heap.push { cls := .type "tuple_iterator", data := .fields #[.ref l, .int 0 0] })
    (o := { cls := .type "enumerate", data := .fields #[.none, .bool false, .ref s.heap.objs.size, rawInt 0, .none, .none] }) rfl
  rw [hz] at he
  exact ⟨⟨_, he, rfl⟩, h _ he ⟨_, Heap.get?_push_of_some _ (Heap.get?_push_size _ rfl), rfl, rfl⟩ (by rw [Heap.size_push, hz]) fun b o x => Heap.get?_push_of_some _ (Heap.get?_push_of_some _ x)⟩
end
end PcEn

set_option Elab.async false
set_option linter.all false
set_option maxRecDepth 100000
set_option maxHeartbeats 1000000
set_option autoImplicit false
/-! PcIt: enumerate, zip, texts: what is walked -/
namespace Pc
open PySem PySem.Spec PyProof.Rows L2

/-! ### enumerate(tuple) -/
def IteT (K : PySem.W.Frag) (a : Addr) : It :=
  ⟨fun i H => ∃ (xs : List V) (x : V), SqT K H a xs ∧ xs[i]? = some x, fun i H v H' => ∃ T x, v = .ref T ∧ H T = none ∧ H' = upd H T (.tup [.int (i : Nat), x]) ∧ ∀ xs, SqT K H a xs → xs[i]? = some x, fun i H => ∃ xs : List V, SqT K H a xs ∧ xs.length ≤ i⟩
theorem turn_enumT {P : Program} {w : World} {K : PySem.W.Frag} {elts : List Expr} {kk : Nat} {tpos : Pos} (a e it : Addr) :
    Turn P w K (.Tuple elts kk tpos) (IteT K a) [e, it] e (fun i h => (∃ old, IsEnum h e it ((i : Nat) : Int) old) ∧ h.IsTupleIter it a i ∧ e ≠ it) where
  mem := by simp
  obj := fun i h st b hb => by
    obtain ⟨⟨old, he⟩, ⟨o, ho, hc, hd⟩, _⟩ := st
    have e' : b = e ∨ b = it := by simpa using hb
    rcases e' with z | z
    · rw [z]; exact ⟨_, he, fun v q => nomatch q⟩
    · rw [z]; exact ⟨o, ho, fun v q => by rw [hd] at q; cases q⟩
  keep := fun i h h' st k => let ⟨⟨old, he⟩, hi, hne⟩ := st; ⟨⟨old, k e (by simp) _ he⟩, hi.at fun o q => k it (by simp) o q, hne⟩
  item := by
    intro X hP hw hK hc i pins s σ H E I hf st hg
    subst hP hw hK
    obtain ⟨⟨old, he⟩, hit, hne⟩ := st
    obtain ⟨xs, x, hq, hx⟩ := hg
    obtain ⟨its, rv, p, hz⟩ := I.tuple hq
    obtain ⟨u, hu, ru⟩ := rv.get hx
    have hel : e < s.heap.objs.size := Heap.lt_size he
    have hil : it < s.heap.objs.size := by obtain ⟨_, q, _⟩ := hit; exact Heap.lt_size q
    refine PcEn.pyNext_item he hit (show s.heap.IsTuple a its.toArray from p) (x := u) (by simpa using hu) hne fun h' ho hit' hT hsz hk => ?_
    refine ⟨_, rfl, wpAny_letOwnedTupleGo_enum (s := { s with heap := h', toks := s.toks + 1 }) ho fun h'' he' sb => ?_⟩
    have hT2 : h''.get? s.heap.objs.size = some { cls := .type "tuple", data := .seq #[.int i s.toks, u] } := (sb.2 _ (Nat.ne_of_gt hel)).trans hT
    have new : ObjOk X.prog X.w (upd H s.heap.objs.size (.tup [.int (i : Nat), x])) h'' s.heap.objs.size (.tup [.int (i : Nat), x]) :=
      ⟨by show 2 ≤ sizeLine; decide, [.int i s.toks, u], .cons ⟨_, rfl⟩ (.cons ru .nil), ⟨_, hT2, rfl, _, rfl⟩⟩
    have I1 : Inv X pins σ (upd H s.heap.objs.size (.tup [.int (i : Nat), x])) { s with heap := h'', toks := s.toks + 1 } :=
      I.turnedNew (ch := [e, it]) (fun b ob hb q => (sb.2 b (fun z => hb (by simp [z]))).trans (hk b ob (fun z => hb (by simp [z])) (fun z => hb (by simp [z])) q)) hf (Nat.le_refl _) new
    refine ⟨.ref s.heap.objs.size, _, I1, rfl, ⟨_, x, rfl, I.hok.fresh (Nat.le_refl _), rfl, fun ys hy => by rw [I.tuple_inj hy hq]; exact hx⟩, ⟨⟨u, ?_⟩, hit'.at fun o q => (sb.2 it (Ne.symm hne)).trans q, hne⟩, fun b hb => ?_⟩
    · have e1 : ((i + 1 : Nat) : Int) = (i : Int) + 1 := by omega
      rw [e1]; exact he'
    · have hb' : b < s.heap.objs.size := by
        have e' : b = e ∨ b = it := by simpa using hb
        rcases e' with z | z
        · rw [z]; exact hel
        · rw [z]; exact hil
      rw [upd_ne (Nat.ne_of_lt hb')]
      exact (hf b hb).1
  done := by
    intro X hP hw hK hc i pins s σ H E I hf st hg
    subst hP hw hK
    obtain ⟨⟨old, he⟩, hit, hne⟩ := st
    obtain ⟨xs, hq, hx⟩ := hg
    obtain ⟨its, rv, p, hz⟩ := I.tuple hq
    obtain ⟨f0, f1, f2, f3, f4, f5⟩ := hf it (by simp)
    have hl := rv.length
    exact PcEn.pyNext_end (I.ok.hd hc) he hit (show s.heap.IsTuple a its.toArray from p) (by simp; omega) fun h' eb => ⟨rfl, I.turned (t' := s.toks) (fun b o hb q => eb b o hb q) f0 f1 f3 f4 f5⟩
  self := fun A i s Q E st h => let ⟨⟨_, he⟩, _⟩ := st; wpAny_pyIter_enum he h
def iEnumA (K : PySem.W.Frag) (ta : TA) : TI := fun σ H R => ta σ H fun vs H1 => ∃ a xs, vs = [.ref a] ∧ ((SqL K H1 a xs ∧ R (Ite K a) H1) ∨ (SqT K H1 a xs ∧ R (IteT K a) H1))
theorem pi_enumA {X : Cx} {e : Expr} {ta : TA} {p pos tpos : Pos} {elts : List Expr} {kk : Nat} (hg : Gl X "enumerate") (hm : X.mg "enumerate" = none) (ha : PA X [e] ta) (hs : starEach [e] X.env = [(false, eval e X.env)]) :
    PI X (.Tuple elts kk tpos) (.Call (.Name "enumerate" p) [e] [] pos) (iEnumA X.K ta) := by
  refine ⟨fun pins s σ H R I h => ?_⟩
  refine Call_ (ld_blt I hg hm boot_enumerate (PyProof.Rows.callWith_type1 (thn (ha.run pos pins s σ H _ I h) fun us s1 ⟨vs, H1, I1, r1, q1⟩ => ?_) hs rfl))
  obtain ⟨a, xs, ex, q⟩ := q1
  subst ex
  cases r1 with
  | cons r rr =>
    cases rr
    cases r
    have fp : ∀ b ∈ [s1.heap.objs.size + 1, s1.heap.objs.size], s1.heap.objs.size ≤ b := fun b hb => by
      have e' : b = s1.heap.objs.size + 1 ∨ b = s1.heap.objs.size := by simpa using hb
      rcases e' with z | z
      · rw [z]; exact Nat.le_add_right _ _
      · rw [z]; exact Nat.le_refl _
    rcases q with ⟨hq, q⟩ | ⟨hq, q⟩
    · obtain ⟨its, rv, p', hz⟩ := I1.list hq
      refine call_enumerate_list p'.isList fun h' he hit hsz hk => wpAny_pyIter_enum he ?_
      have I2 : Inv X pins σ H1 { s1 with heap := h' } := I1.kept (t' := s1.toks) hk
      exact ⟨s1.heap.objs.size + 1, [s1.heap.objs.size + 1, s1.heap.objs.size], _, _, H1, rfl, I2, turn_enum a (s1.heap.objs.size + 1) s1.heap.objs.size, ⟨⟨.none, he⟩, hit, Nat.succ_ne_self _⟩, fun b hb => I1.fpOk (fp b hb) (I1.hok.fresh (fp b hb)), q⟩
    · obtain ⟨its, rv, p', hz⟩ := I1.tuple hq
      refine PcEn.call_enum (show s1.heap.IsTuple a its.toArray from p') fun h' he hit hsz hk => wpAny_pyIter_enum he ?_
      have I2 : Inv X pins σ H1 { s1 with heap := h' } := I1.kept (t' := s1.toks) hk
      exact ⟨s1.heap.objs.size + 1, [s1.heap.objs.size + 1, s1.heap.objs.size], _, _, H1, rfl, I2, turn_enumT a (s1.heap.objs.size + 1) s1.heap.objs.size, ⟨⟨.none, he⟩, hit, Nat.succ_ne_self _⟩, fun b hb => I1.fpOk (fp b hb) (I1.hok.fresh (fp b hb)), q⟩
/-! ### as functions -/
def gEnu (d : D) : GI := fun M k => match seqA M d with
  | some xs => some (xs[k]?.map fun x => .tup [.int (k : Nat), x])
  | none => none
def enuS (ds : List D) (M : Mem) : R (Nat × GI) := match ds with
  | [d] => (match seqA M d with
    | some xs => .ok (xs.length, gEnu d) M
    | none => .stuck)
  | _ => .stuck
def mIEnu (ms : MDs) : MI := fun env M => (ms env M).bind enuS
/-- a sequence as it stands later -/
theorem seqA_later {K : PySem.W.Frag} {F H : Hp} {io : List Addr} {M : Mem} {d : D} {a : Addr} {xs : List D} (ha : HA K F io H M) (r : Rel K F io d (.ref a)) (e : seqA M d = some xs) :
    (Pc.seqT d ≠ none → ∃ vs, SqT K H a vs ∧ RelL K F io xs vs) ∧ (Pc.seqT d = none → ∃ vs, SqL K H a vs ∧ RelL K F io xs vs) := by
  constructor
  · intro h
    cases ht : Pc.seqT d with
    | none => exact absurd ht h
    | some ys =>
      have : xs = ys := by
        cases d <;> first | (cases ht; cases e; rfl) | cases ht
      subst this
      obtain ⟨b, vs, e1, e2, e3⟩ := ha.seqT r ht
      cases e1
      exact ⟨vs, e2, e3⟩
  · intro h
    have nt : Pc.seqA M d = seqL M d := by cases d <;> first | rfl | cases h
    rw [nt] at e
    obtain ⟨vs, e1, e2⟩ := sqL_inj ha r e
    exact ⟨vs, .of e1, e2⟩
theorem enu_rel {K : PySem.W.Frag} {F H : Hp} {io : List Addr} {M : Mem} {k : Nat} {y : D} {v : V} {T : Addr} (ha : HA K F io H M) (hT : H T = none) (r : Rel K F io y v) :
    ∃ F2, HA K F2 io (upd H T (.tup [.int (k : Nat), v])) M ∧ Ex F io H F2 io (upd H T (.tup [.int (k : Nat), v])) ∧ Rel K F2 io (.tup [.int (k : Nat), y]) (.ref T) := by
  obtain ⟨h1, h2, h3⟩ := ha.newF (o := .tup [.int (k : Nat), v]) hT
  exact ⟨_, h1, h2, T, _, rfl, upd_same, .int (k : Nat), [v], rfl, rfl, v, [], rfl, Rel.mono h3 (fun _ _ z => z) _ _ r, rfl⟩
theorem enu_it {K : PySem.W.Frag} {F : Hp} {io : List Addr} {d : D} {a : Addr} (r : Rel K F io d (.ref a)) : ItOk K F io (if Pc.seqT d = none then Ite K a else IteT K a) (gEnu d) := by
  intro F1 io1 H1 M1 h1 hs hi k
  have r1 := Rel.mono hs hi d _ r
  unfold gEnu
  cases z : seqA M1 d with
  | none => exact ⟨fun q => (by cases q), fun y q => (by cases q)⟩
  | some ys =>
    obtain ⟨l1, l2⟩ := seqA_later h1 r1 z
    by_cases ht : Pc.seqT d = none
    · rw [if_pos ht]
      obtain ⟨vs, e2, e3⟩ := l2 ht
      refine ⟨fun q => ?_, fun y q => ?_⟩
      · have q' : ys[k]? = none := by
          have := Option.some.inj q
          simpa using this
        exact ⟨vs, e2, by rw [← e3.length]; exact List.getElem?_eq_none_iff.mp q'⟩
      · obtain ⟨y0, q1, q2⟩ : ∃ y0, ys[k]? = some y0 ∧ D.tup [.int (k : Nat), y0] = y := by
          have := Option.some.inj q
          simpa using this
        subst q2
        obtain ⟨v, g1, g2⟩ := e3.get q1
        refine ⟨⟨vs, v, e2, g1⟩, fun x H' ⟨T, v', ex, hT, eh, yy⟩ => ?_⟩
        subst ex eh
        have := yy vs e2
        rw [g1] at this
        cases this
        exact enu_rel h1 hT g2
    · rw [if_neg ht]
      obtain ⟨vs, e2, e3⟩ := l1 ht
      refine ⟨fun q => ?_, fun y q => ?_⟩
      · have q' : ys[k]? = none := by
          have := Option.some.inj q
          simpa using this
        exact ⟨vs, e2, by rw [← e3.length]; exact List.getElem?_eq_none_iff.mp q'⟩
      · obtain ⟨y0, q1, q2⟩ : ∃ y0, ys[k]? = some y0 ∧ D.tup [.int (k : Nat), y0] = y := by
          have := Option.some.inj q
          simpa using this
        subst q2
        obtain ⟨v, g1, g2⟩ := e3.get q1
        refine ⟨⟨vs, v, e2, g1⟩, fun x H' ⟨T, v', ex, hT, eh, yy⟩ => ?_⟩
        subst ex eh
        have := yy vs e2
        rw [g1] at this
        cases this
        exact enu_rel h1 hT g2
section
variable {X : Cx} {W : WX} {tg e : Expr}
theorem im_enu {ms : MDs} {a : Expr} {p pos tpos : Pos} {elts : List Expr} {kk : Nat} (hg : Gl X "enumerate") (hm : X.mg "enumerate" = none) (ha : PA X [a] (tDs X.K W ms)) (hn : noStar a = true) :
    PI X (.Tuple elts kk tpos) (.Call (.Name "enumerate" p) [a] [] pos) (tI X.K W (mIEnu ms)) := PI.imp' (pi_enumA hg hm ha (by rw [star_cons hn]; rfl)) fun σ H Q h => by
  refine tDs_mono (tI_tDs (k := enuS) h) fun x H1 ⟨ds, M1, F1, io1, a, r, p⟩ => ?_
  unfold enuS at p
  split at p
  · rename_i d
    obtain ⟨v, rfl, r1⟩ := relL1 r
    split at p
    · rename_i xs hx
      obtain ⟨b, vs, rfl, e2, e3⟩ := a.seqA r1 hx
      obtain ⟨l1, l2⟩ := seqA_later a r1 hx
      have pi := p F1 io1 H1 _ a .refl (enu_it r1)
      by_cases ht : Pc.seqT d = none
      · obtain ⟨us, g1, g2⟩ := l2 ht
        rw [if_pos ht] at pi
        exact ⟨b, us, rfl, .inl ⟨g1, pi⟩⟩
      · obtain ⟨us, g1, g2⟩ := l1 ht
        rw [if_neg ht] at pi
        exact ⟨b, us, rfl, .inr ⟨g1, pi⟩⟩
    · exact p.elim
  · exact p.elim
end
/-! ### a list, a tuple, a text -/
def gStr (x : Str) : GI := fun _ k => some (x.cps[k]?.map fun c => .str ⟨#[c]⟩)
def anyI (d : D) (M : Mem) : R (Nat × GI) := match d with
  | .str x => .ok (x.cps.size, gStr x) M
  | d => (match seqA M d with
    | some xs => .ok (xs.length, gSeq d) M
    | none => .stuck)
def mIAny (m : ME) : MI := fun env M => (mD m env M).bind anyI
theorem str_it {K : PySem.W.Frag} {F : Hp} {io : List Addr} (x : Str) : ItOk K F io (Its x) (gStr x) := by
  intro F1 io1 H1 M1 h1 hs hi k
  unfold gStr
  refine ⟨fun q => ?_, fun y q => ?_⟩
  · have q' : x.cps[k]? = none := by
      have := Option.some.inj q
      simpa using this
    exact Array.getElem?_eq_none_iff.mp q'
  · obtain ⟨c, q1, q2⟩ : ∃ c, x.cps[k]? = some c ∧ D.str ⟨#[c]⟩ = y := by
      have := Option.some.inj q
      simpa using this
    subst q2
    refine ⟨(Array.getElem?_eq_some_iff.mp q1).1, fun v H' ⟨eh, c', e1, e2⟩ => ?_⟩
    subst eh e2
    rw [q1] at e1
    cases e1
    exact ⟨F1, h1, .refl, rfl⟩
section
variable {X : Cx} {W : WX} {tg e : Expr}
theorem pi_any {l : Expr} {tl : TE} (hl : PE X l tl) : PI X tg l (fun σ H R => tl σ H fun v H1 => (∃ x, v = .str x ∧ R (Its x) H1) ∨ ∃ a, v = .ref a ∧ ((∃ xs, SqL X.K H1 a xs) ∧ R (Itl X.K a) H1 ∨ (∃ xs, SqT X.K H1 a xs) ∧ R (Itt X.K a) H1)) := by
  refine ⟨fun pins s σ H R I h => ?_⟩
  refine thn (hl.run pins s σ H _ I h) fun v s1 ⟨y, H1, I1, r1, q1⟩ => ?_
  rcases q1 with ⟨x, ex, q⟩ | ⟨a, e, q⟩
  · subst ex
    obtain ⟨t, rfl⟩ := r1
    cases ha : x.cps.all (· < 128)
    · exact wpAny_pyIter_wide ha (pi_one (tk := s1.toks) I1 _ (turn_str _ x t "str_iterator" (.inr rfl)) ⟨_, Heap.get?_push_size _ rfl, rfl, rfl⟩ q)
    · exact wpAny_pyIter_ascii ha (pi_one (tk := s1.toks) I1 _ (turn_str _ x t "str_ascii_iterator" (.inl rfl)) ⟨_, Heap.get?_push_size _ rfl, rfl, rfl⟩ q)
  · subst e
    cases r1
    rcases q with ⟨⟨xs, hq⟩, q⟩ | ⟨⟨xs, hq⟩, q⟩
    · obtain ⟨its, rv, p, hz⟩ := I1.list hq
      exact wpAny_pyIter_list p.isList (pi_one (tk := s1.toks) I1 _ (turn_list a _) ⟨_, Heap.get?_push_size _ rfl, rfl, rfl⟩ q)
    · obtain ⟨its, rv, p, hz⟩ := I1.tuple hq
      exact wpAny_pyIter_tuple (show s1.heap.IsTuple a its.toArray from p) (pi_one (tk := s1.toks) I1 _ (turn_tuple a _) ⟨_, Heap.get?_push_size _ rfl, rfl, rfl⟩ q)
theorem im_any {m : ME} (h : PE X e (tE X.K W m)) : PI X tg e (tI X.K W (mIAny m)) := PI.imp' (pi_any (pe_d h)) fun σ H Q h => by
  refine PE_t_mono (tI_tD (k := anyI) h) fun x H1 ⟨d, M1, F1, io1, a, r, p⟩ => ?_
  unfold anyI at p
  split at p
  · rename_i z
    exact .inl ⟨z, r, p F1 io1 H1 _ a .refl (str_it z)⟩
  · skip
    split at p
    · rename_i xs q
      obtain ⟨b, vs, e1, e2, e3⟩ := a.seqA r q
      subst e1
      refine .inr ⟨b, rfl, ?_⟩
      obtain ⟨l1, l2⟩ := seqA_later a r q
      cases ht : Pc.seqT d with
      | some ys =>
        obtain ⟨us, g1, g2⟩ := l1 (by rw [ht]; exact fun z => nomatch z)
        exact .inr ⟨⟨us, g1⟩, p F1 io1 H1 _ a .refl (sqT_it r ht)⟩
      | none =>
        have nt : Pc.seqA M1 d = seqL M1 d := by cases d <;> first | rfl | cases ht
        rw [nt] at q
        obtain ⟨us, g1, g2⟩ := l2 ht
        exact .inl ⟨⟨us, g1⟩, p F1 io1 H1 _ a .refl (seq_it a r q)⟩
    · exact p.elim
end
end Pc

set_option Elab.async false
set_option linter.all false
set_option maxRecDepth 100000
set_option maxHeartbeats 1000000
set_option autoImplicit false
/-! PcTr: the program's text, read as functions -/
namespace Pc
open PySem PySem.Spec PyProof.Rows L2

/-- what is known of the module -/
structure GE where
  fnA : List (Str × Nat)
  clA : List (Str × (Bool × Nat))
  con : List (Str × D)
  frA : List Str
  meA : List ((Str × Str) × Nat)
  okA : List (Str × Str)
  muA : List Str
  wf : Nat
  exA : List (Str × (Bool × Option Str)) := []
  xaA : List (Str × Str) := []
  isA : List (Str × List (Kd × Bool)) := []
/-- what the module's own code does -/
structure Dy where
  call : Str → List D → Mem → R RV
  meth : Str → Str → List D → Mem → R RV
structure TC where
  N : List Str
  sc : Scope
  fnS : Str → Bool
  mu : List Str
  G : GE
  Y : Dy
def ixOf (x : Str) : List Str → Option Nat
  | [] => none
  | y :: r => if y = x then some 0 else (ixOf x r).map (· + 1)
theorem ixOf_ok {x : Str} : ∀ {N : List Str} {i : Nat}, ixOf x N = some i → N[i]? = some x
  | [], _, h => by cases h
  | y :: r, i, h => by
    unfold ixOf at h
    split at h
    · rename_i e; cases h; rw [e]; rfl
    · cases q : ixOf x r with
      | none => rw [q] at h; cases h
      | some j => rw [q] at h; cases h; exact ixOf_ok (N := r) q
def visB (sc : Scope) (x : Str) : Bool := match sc.names.lookup x with
  | some .local => true
  | some .cell => true
  | some .free => true
  | _ => false
def gloB (sc : Scope) (x : Str) : Bool := match sc.names.lookup x with
  | some .globalImplicit => true
  | _ => false
def locB (C : TC) (x : Str) : Bool := match C.sc.names.lookup x with
  | some .local => true
  | some .cell => C.fnS x
  | _ => false
def plainX (x : Str) : Bool := !(x == ("__debug__" : Str)) && !(x == ("__classdict__" : Str))
def okB (G : GE) (c f : Str) : Bool := G.okA.contains (c, f)
def oxB (G : GE) (c f : Str) : Bool := G.xaA.contains (c, f)
def bltG (x : Str) : Option (List D → Mem → R RV) := if x = "repr" then some reprS else bltF x
def ownB (C : TC) (name : Str) : OwnM := fun c => (C.G.meA.lookup (name, c)).map fun n => (n, C.Y.meth c name)
def trName (C : TC) (x : Str) : ME :=
  if plainX x then (if visB C.sc x then (match ixOf x C.N with
    | some i => mVar i
    | none => mStuck)
  else if gloB C.sc x then (match C.G.con.lookup x with
    | some d => mVal d
    | none => mStuck) else mStuck) else mStuck
def notSl : Expr → Bool
  | .Slice .. => false
  | _ => true
def notSet : Expr → Bool
  | .Set .. => false
  | _ => true
def ownOf (N : List Str) (scope : Scope) : List (Str × Nat) := scope.names.filterMap fun y => match y.2 with
  | .local => (ixOf y.1 N).map fun i => (y.1, i)
  | .cell => (ixOf y.1 N).map fun i => (y.1, i)
  | _ => none
def blkTC (C : TC) (scope : Scope) : TC := { C with sc := relS scope C.sc, fnS := fun x => scope.names.lookup x == some .cell }
def gJoin : Option MG → Option MGs → Option MGs
  | some g, some gs => some (gsCons g gs)
  | _, _ => none
def trG (C : TC) : Nat → Expr → Option MG
  | 0, _ => none
  | n + 1, e => match e with
    | .Name x _ => if locB C x then (ixOf x C.N).map gN else none
    | .Tuple es _ _ => if es.all noStar then (es.foldr (fun e r => gJoin (trG C n e) r) (some gsNil)).map (gT es.length) else none
    | _ => none
def trCallN (C : TC) (x : Str) (ms : MDs) : ME :=
  if plainX x && gloB C.sc x then (match C.G.fnA.lookup x with
    | some k => mCall k (C.Y.call x) ms
    | none => match C.G.clA.lookup x with
      | some (b, k) => mMake b x k (C.Y.meth x "__init__") ms
      | none => match C.G.exA.lookup x with
        | some (fm, fl) => mExo x fm fl ms
        | none => if C.G.frA.contains x then (match bltG x with
          | some f => mBlt f ms
          | none => mStuck) else mStuck)
  else mStuck

mutual
def trE : Nat → TC → Expr → ME
  | 0, _, _ => mStuck
  | n + 1, C, e => match e with
    | .Constant .none _ _ => mVal .non
    | .Constant (.bool b) _ _ => mVal (.bl b)
    | .Constant (.int i) _ _ => mVal (.int i)
    | .Constant (.str s) _ _ => mVal (.str s)
    | .Name x _ => trName C x
    | .BinOp a op b _ => mBin op (trE n C a) (trE n C b)
    | .Compare a [op] [b] _ => if behindInMarks op b = false then mCmp op (trE n C a) (trE n C b) else mStuck
    | .Compare a [op, op'] [b, c] _ => if lastMarks [op, op'] [b, c] = false then mChain op op' (trE n C a) (trE n C b) (trE n C c) else mStuck
    | .BoolOp _ [x] _ => trE n C x
    | .BoolOp .And (x :: y :: r) p => mAnd (trE n C x) (trE n C (.BoolOp .And (y :: r) p))
    | .BoolOp .Or (x :: y :: r) p => mOr (trE n C x) (trE n C (.BoolOp .Or (y :: r) p))
    | .UnaryOp .Not x _ => mNot (trE n C x)
    | .UnaryOp .USub x _ => mNeg (trE n C x)
    | .IfExp c a b _ => mIf (trT n C c) (trE n C a) (trE n C b)
    | .Tuple es _ _ => mTup (trA n C es)
    | .List es _ => mLst (trA n C es)
    | .Dict [] [] _ => mDNew false
    | .Dict (k :: ks) vs _ => (match trP n C (k :: ks) vs with
      | some l => if (k :: ks).length ≤ 15 then mDict l else mStuck
      | none => mStuck)
    | .Attribute o f _ => if notSuper o then mAttrX (okB C.G) (oxB C.G) f (trE n C o) else mStuck
    | .Subscript a i _ => (match i with
      | .Slice lo hi none _ => mSlice (trE n C a) (trO n C lo) (trO n C hi)
      | i => if notSl i then mIdx (trE n C a) (trE n C i) else mStuck)
    | .ListComp elt [⟨tg, iter, ifs, 0⟩] scope _ => (match trG (blkTC C scope) n tg with
      | some g => if blkC C.N C.sc scope (ownOf C.N scope) && notSet iter then mLc (trI n C tg iter) g (trIf n (blkTC C scope) ifs) (mA false (trE n (blkTC C scope) elt)) ((ownOf C.N scope).map (·.2)) else mStuck
      | none => mStuck)
    | .Call (.Name x _) es [] _ => if x = ("isinstance" : Str) then (match es with
      | [e, .Name c _] => if gloB C.sc x && C.G.frA.contains x && gloB C.sc c && plainX c && noStar e then (match C.G.isA.lookup c with
        | some tb => mIsi (fun k => tb.lookup k) (trE n C e)
        | none => mStuck) else mStuck
      | _ => mStuck) else if es.all noStar then trCallN C x (trA n C es) else mStuck
    | .Call (.Attribute o name ap) es [] p => if notSuper o && es.all noStar && decide (es.length < 30) && (ap.endLine == p.line) then mMeth (methAlts name) (ownB C name) name (trE n C o) (trA n C es) else mStuck
    | _ => mStuck
def trT : Nat → TC → Expr → MT
  | 0, _, _ => fun _ _ => .stuck
  | n + 1, C, e => match e with
    | .BoolOp op vs p => trW n C (.BoolOp op vs p)
    | .UnaryOp .Not x _ => mNotT (trT n C x)
    | .Compare a [op] [b] _ => if behindInMarks op b = false then mBl (mCmp op (trE n C a) (trE n C b)) else fun _ _ => .stuck
    | .Compare a [op, op'] [b, c] _ => if lastMarks [op, op'] [b, c] = false then mBl (mChain op op' (trE n C a) (trE n C b) (trE n C c)) else fun _ _ => .stuck
    | .Compare .. => fun _ _ => .stuck
    | .IfExp .. => fun _ _ => .stuck
    | e => mTru (trE n C e)
def trW : Nat → TC → Expr → MT
  | 0, _, _ => fun _ _ => .stuck
  | n + 1, C, e => match e with
    | .BoolOp _ [x] _ => trT n C x
    | .BoolOp .And (x :: y :: r) p => mAndT (trT n C x) (trW n C (.BoolOp .And (y :: r) p))
    | .BoolOp .Or (x :: y :: r) p => mOrT (trT n C x) (trW n C (.BoolOp .Or (y :: r) p))
    | _ => fun _ _ => .stuck
def trIf : Nat → TC → List Expr → MT
  | 0, _, _ => fun _ _ => .stuck
  | n + 1, C, es => match es with
    | [] => mYes
    | [c] => trT n C c
    | _ => fun _ _ => .stuck
def trA : Nat → TC → List Expr → MDs
  | 0, _, es => match es with
    | [] => mNil
    | _ => fun _ _ => .stuck
  | n + 1, C, es => match es with
    | [] => mNil
    | .Starred e _ :: r => mStar (trE n C e) (trA n C r)
    | e :: r => mConsA false (trE n C e) (trA n C r)
def trO : Nat → TC → Option Expr → MPt
  | 0, _, _ => fun _ _ => .stuck
  | n + 1, C, o => match o with
    | none => mNoPart
    | some e => mPart (trE n C e)
def trP : Nat → TC → List (Option Expr) → List Expr → Option (List (ME × ME))
  | 0, _, _, _ => none
  | n + 1, C, ks, vs => match ks, vs with
    | [], [] => some []
    | some k :: ks, v :: vs => (trP n C ks vs).map fun l => (trE n C k, trE n C v) :: l
    | _, _ => none
def trI : Nat → TC → Expr → Expr → MI
  | 0, _, _, _ => fun _ _ => .stuck
  | n + 1, C, tg, e => match e with
    | .Call (.Name x _) [a] [] _ =>
      if x = ("range" : Str) then (if gloB C.sc x && C.G.frA.contains x && noStar a then mIRng1 (trA n C [a]) else fun _ _ => .stuck)
      else if x = ("enumerate" : Str) then (match tg with
        | .Tuple .. => if gloB C.sc x && C.G.frA.contains x && noStar a then mIEnu (trA n C [a]) else fun _ _ => .stuck
        | _ => fun _ _ => .stuck)
      else mIAny (trE n C e)
    | .Call (.Name x _) [a, b] [] _ =>
      if x = ("range" : Str) then (if gloB C.sc x && C.G.frA.contains x && noStar a && noStar b then mIRng2 (trA n C [a, b]) else fun _ _ => .stuck)
      else mIAny (trE n C e)
    | e => mIAny (trE n C e)
end
end Pc

set_option Elab.async false
set_option linter.all false
set_option maxRecDepth 100000
set_option maxHeartbeats 1000000
set_option autoImplicit false
/-! PcSo: the reading is right -/
namespace Pc
open PySem PySem.Spec PyProof.Rows L2

structure GOk (G : GE) (Y : Dy) (X : Cx) (lev : Nat) : Prop where
  con : ∀ x d, G.con.lookup x = some d → ∃ u v, X.mg x = some u ∧ RelV v u ∧ ∀ F io, Rel X.K F io d v
  fns : ∀ x k, G.fnA.lookup x = some k → ∃ f, X.mg x = some (.ref f) ∧ PySem.W.keepIn X.K (.ref f) = true ∧ FnM X lev f k (Y.call x)
  cls : ∀ x b k, G.clA.lookup x = some (b, k) → X.mg x = some (.ref (He.ga X.K x)) ∧ ∃ fI, Mk X.K (He.ga X.K x) fI ∧ FnM X lev fI k (Y.meth x "__init__")
  own : ∀ name c k, G.meA.lookup (name, c) = some k → ∃ g, Cls X.K (He.ga X.K c) ∧ Meth X.K (He.ga X.K c) name g ∧ FnM X lev g k (Y.meth c name)
  ok : ∀ c f, G.okA.contains (c, f) = true → Cls X.K (He.ga X.K c) ∧ NoAttr X.K (He.ga X.K c) f
  fr : ∀ x, G.frA.contains x = true → X.mg x = none
  gd : X.A.guards = some []
  exs : ∀ x fm fl, G.exA.lookup x = some (fm, fl) → X.mg x = some (.ref (He.ga X.K x)) ∧ ExaOk X.prog X.K (He.ga X.K x) fm fl
  xa : ∀ c f, G.xaA.contains (c, f) = true → XfC X.K (He.ga X.K c) ∧ PySem.W.findIn X.K (.ref (He.ga X.K c)) f = some none
  isi : ∀ c tb, G.isA.lookup c = some tb → (∃ u, ClsN X.K X.mg c u) ∧ ∀ k b, tb.lookup k = some b → KdOk X.K k ∧ ∃ u, ClsN X.K X.mg c u ∧ PySem.W.kitOne X.K (tyV X.K k) u = some b
structure COk (C : TC) (X : Cx) (W : WX) (lev : Nat) : Prop where
  kind : X.env.scope.kind = .function
  sc : X.env.scope = C.sc
  N : X.N = C.N
  nd : C.N.Nodup
  calm : X.calm = true
  fn : ∀ x, C.fnS x = true → X.fn x = true
  room : Room (lev + 1) X.A
  tk : Takes X W
  g : GOk C.G C.Y X lev
section
variable {C : TC} {X : Cx} {W : WX} {lev : Nat}
theorem COk.hu (c : COk C X W lev) : X.A.units + 65 < cLine := by have := c.room.un; omega
theorem GOk.blk {G : GE} {Y : Dy} {s : Shared} {H : Hp} {scope : Scope} {cenv : PySem.Env} {fp : List Addr} (g : GOk G Y X lev) : GOk G Y (X.blk s H scope cenv fp) lev where
  con := g.con
  fns := fun x k h => by obtain ⟨f, h1, h2, h3⟩ := g.fns x k h; exact ⟨f, h1, h2, ⟨h3.gd, h3.ex⟩⟩
  cls := fun x b k h => by obtain ⟨h1, f, h2, h3⟩ := g.cls x b k h; exact ⟨h1, f, h2, ⟨h3.gd, h3.ex⟩⟩
  own := fun n c k h => by obtain ⟨f, h1, h2, h3⟩ := g.own n c k h; exact ⟨f, h1, h2, ⟨h3.gd, h3.ex⟩⟩
  ok := g.ok
  fr := g.fr
  gd := g.gd
  exs := g.exs
  xa := g.xa
  isi := g.isi
theorem COk.blk {scope : Scope} {own : List (Str × Nat)} (c : COk C X W lev) (ok : BlkOk X.N X.env.scope scope own) (s : Shared) (H : Hp) (A : Addr) (cl : List (Str × Addr)) (fp : List Addr) :
    COk (blkTC C scope) (X.blk s H scope (compEnvC scope cl A X.env) fp) W0 lev where
  kind := ok.kind
  sc := by
    show relS scope X.env.scope = relS scope C.sc
    rw [c.sc]
  N := c.N
  nd := c.nd
  calm := c.calm
  fn := fun x h => h
  room := c.room
  tk := fun u s' ⟨a, B, sI, pins, σ, H, cls, d, e, I, nb, up, sky, na, os, ag, w⟩ => False.elim w
  g := c.g.blk
theorem COk.gl (c : COk C X W lev) {x : Str} (h : gloB C.sc x = true) : Gl X x := by
  unfold gloB at h
  show X.env.scope.names.lookup x = _
  rw [c.sc]
  split at h
  · assumption
  · cases h
theorem COk.vis (c : COk C X W lev) {x : Str} (h : visB C.sc x = true) : Vis X.env.scope x := by
  unfold visB at h
  unfold Vis
  rw [c.sc]
  split at h <;> first | exact .inl (by assumption) | exact .inr (.inl (by assumption)) | exact .inr (.inr (by assumption)) | cases h
theorem COk.loc (c : COk C X W lev) {x : Str} (h : locB C x = true) : L2.Loc X.env.scope x ∧ (X.fn x = true ∨ X.env.scope.names.lookup x = some .local) := by
  unfold locB at h
  unfold L2.Loc
  rw [c.sc]
  split at h
  · rename_i e; exact ⟨.inl e, .inr e⟩
  · rename_i e; exact ⟨.inr e, .inl (c.fn x h)⟩
  · cases h
theorem plainX_ok {x : Str} (h : plainX x = true) : (x == ("__debug__" : Str)) = false ∧ (x == ("__classdict__" : Str)) = false := by
  unfold plainX at h
  rw [Bool.and_eq_true] at h
  exact ⟨by simpa using h.1, by simpa using h.2⟩
theorem so_name (c : COk C X W lev) {x : Str} {pos : Pos} : PE X (.Name x pos) (tE X.K W (trName C x)) := by
  unfold trName
  split
  · rename_i hp
    obtain ⟨p1, p2⟩ := plainX_ok hp
    split
    · rename_i hv
      split
      · rename_i i hi
        exact pm_var (by rw [c.N]; exact ixOf_ok hi) (c.vis hv) p1 p2
      · exact pm_stuck
    · split
      · rename_i hg
        split
        · rename_i d hd
          obtain ⟨u, v, h1, h2, h3⟩ := c.g.con x d hd
          exact pm_const (pe_glob (c.gl hg) h1 h2 p1) h3
        · exact pm_stuck
      · exact pm_stuck
  · exact pm_stuck
theorem bltG_ok {X : Cx} (hc : X.calm = true) (hg : X.A.guards = some []) (hu : X.A.units + 65 < cLine) {x : Str} {f : List D → Mem → R RV} (h : bltG x = some f) : Blt X x f := by
  unfold bltG at h
  split at h
  · rename_i e; subst e; cases h; exact ⟨⟨_, by decide +kernel, .inl ⟨_, rfl⟩, blt_repr hg hu⟩, by decide +kernel, by decide +kernel⟩
  · exact bltF_ok hc h
theorem so_callN (c : COk C X W lev) {x : Str} {es : List Expr} {p pos : Pos} {ms : MDs} (hn : es.all noStar = true) (hms : es = [] → ms = mNil) (ha : PA X es (tDs X.K W ms)) : PE X (.Call (.Name x p) es [] pos) (tE X.K W (trCallN C x ms)) := by
  unfold trCallN
  split
  · rename_i hh
    rw [Bool.and_eq_true] at hh
    obtain ⟨p1, p2⟩ := plainX_ok hh.1
    have hg := c.gl hh.2
    split
    · rename_i k hk
      obtain ⟨f, h1, h2, h3⟩ := c.g.fns x k hk
      exact pm_call h3 (c.room.mono (Nat.le_succ _)) c.tk hg h1 h2 p1 hn hms ha
    · split
      · rename_i b k hk
        obtain ⟨h1, fI, h2, h3⟩ := c.g.cls x b k hk
        exact pm_make h2 h3 c.room c.tk hg h1 p1 hn hms ha
      · split
        · rename_i fm fl he
          obtain ⟨h1, h2⟩ := c.g.exs x fm fl he
          exact pm_exo h2 c.g.gd c.room c.tk hg h1 p1 hn hms ha
        · split
          · rename_i hf
            split
            · rename_i f hb
              exact pm_blt (bltG_ok c.calm c.g.gd (by have := c.hu; omega) hb) hg (c.g.fr x hf) hn hms ha
            · exact pm_stuck
          · exact pm_stuck
  · exact pm_stuck
theorem so_G (c : COk C X W lev) : ∀ (n : Nat) (e : Expr) (g : MG), trG C n e = some g → PG X e (tG X.K g)
  | 0, e, g, h => by cases h
  | n + 1, e, g, h => by
    unfold trG at h
    split at h
    · rename_i x pos
      split at h
      · rename_i hl
        cases q : ixOf x C.N with
        | none => rw [q] at h; cases h
        | some i =>
          rw [q] at h
          cases h
          obtain ⟨h1, h2⟩ := c.loc hl
          exact gm_name (by rw [c.N]; exact c.nd) (by rw [c.N]; exact ixOf_ok q) h1 h2
      · cases h
    · rename_i es k pos
      split at h
      · rename_i hs
        cases q : es.foldr (fun e r => gJoin (trG C n e) r) (some gsNil) with
        | none => rw [q] at h; cases h
        | some gs =>
          rw [q] at h
          cases h
          have all : ∀ (l : List Expr) (gs : MGs), l.all noStar = true → l.foldr (fun e r => gJoin (trG C n e) r) (some gsNil) = some gs → PGs X l (tGs X.K gs) := by
            intro l
            induction l with
            | nil => intro gs _ e; cases e; exact gsm_nil
            | cons a l ih =>
              intro gs hs e
              rw [List.all_cons, Bool.and_eq_true] at hs
              rw [List.foldr_cons] at e
              cases e1 : trG C n a with
              | none => rw [e1] at e; cases e
              | some g0 =>
                cases e2 : l.foldr (fun e r => gJoin (trG C n e) r) (some gsNil) with
                | none => rw [e1, e2] at e; cases e
                | some gs0 =>
                  rw [e1, e2] at e
                  cases e
                  exact gsm_cons (so_G c n a g0 e1) (ih gs0 hs.2 e2) hs.1
          exact gm_tup c.calm (all es gs hs q) hs rfl
      · cases h
    · cases h
theorem plain_ok {i : Expr} (h : notSl i = true) : PlainIx i := by
  intro o v
  cases i <;> first | rfl | cases h
theorem fold_ok {i : Expr} (h : notSet i = true) (env : PySem.Env) (x : Value) : foldedSetIterable i env x = pure x := by
  cases i <;> first | rfl | cases h
end
end Pc

set_option Elab.async false
set_option linter.all false
set_option maxRecDepth 100000
set_option maxHeartbeats 4000000
set_option autoImplicit false
/-! PcS2: expressions -/
namespace Pc
open PySem PySem.Spec PyProof.Rows L2
section
variable {X : Cx} {W : WX}
theorem pt_stuck {e : Expr} : PT X e (tT X.K W fun _ _ => .stuck) := ⟨fun pins s σ H Q I ⟨F, io, env, M, a, b, p⟩ => p.elim⟩
theorem pw_stuck {e : Expr} : PW X e (tT X.K W fun _ _ => .stuck) := ⟨fun wh pins s σ H Q I ⟨F, io, env, M, a, b, p⟩ => p.elim⟩
theorem pts_stuck {es : List Expr} : PTs X es (tT X.K W fun _ _ => .stuck) := ⟨fun pins s σ H Q I ⟨F, io, env, M, a, b, p⟩ => p.elim⟩
theorem pa_stuck {es : List Expr} : PA X es (tDs X.K W fun _ _ => .stuck) := ⟨fun ps pins s σ H Q I ⟨F, io, env, M, a, b, p⟩ => p.elim⟩
theorem po_stuck {o : Option Expr} : PO X o (tP X.K W fun _ _ => .stuck) := ⟨fun pins s σ H Q I ⟨F, io, env, M, a, b, p⟩ => p.elim⟩
theorem pi_stuck {tg e : Expr} : PI X tg e (tI X.K W fun _ _ => .stuck) := ⟨fun pins s σ H Q I ⟨F, io, env, M, a, b, p⟩ => p.elim⟩
end
structure So (n : Nat) (C : TC) (X : Cx) (W : WX) : Prop where
  e : ∀ e, PE X e (tE X.K W (trE n C e))
  t : ∀ e, PT X e (tT X.K W (trT n C e))
  w : ∀ e, PW X e (tT X.K W (trW n C e))
  f : ∀ es, PTs X es (tT X.K W (trIf n C es))
  a : ∀ es, PA X es (tDs X.K W (trA n C es))
  o : ∀ o, PO X o (tP X.K W (trO n C o))
  p : ∀ ks vs l, trP n C ks vs = some l → PMs X W ks vs l
  i : ∀ tg e, PI X tg e (tI X.K W (trI n C tg e))
theorem trA_nil (n : Nat) (C : TC) : trA n C [] = mNil := by cases n <;> rfl
theorem gE (G : GE) {X : Cx} {lev : Nat} {Y : Dy} (g : GOk G Y X lev) (f : Str) : ∀ c, okB G c f = true → Cls X.K (He.ga X.K c) ∧ NoAttr X.K (He.ga X.K c) f := fun c h => g.ok c f h
section
variable {n lev : Nat} {C : TC} {X : Cx} {W : WX}
/-- the parts of a comprehension -/
theorem so_lc (ih : ∀ (C : TC) (X : Cx) (W : WX) (lev : Nat), COk C X W lev → So n C X W) (c : COk C X W lev) {elt tg : Expr} {ifs : List Expr} {scope : Scope} {g : MG} (hg : trG (blkTC C scope) n tg = some g) (hb : blkC C.N C.sc scope (ownOf C.N scope) = true) :
    BlkOk X.N X.env.scope scope (ownOf C.N scope) ∧
    (∀ (s : Shared) (H : Hp) (A : Addr) (cl : List (Str × Addr)) (fp : List Addr), PG (X.blk s H scope (compEnvC scope cl A X.env) fp) tg (tG X.K g)) ∧
    (∀ (s : Shared) (H : Hp) (A : Addr) (cl : List (Str × Addr)) (fp : List Addr), PTs (X.blk s H scope (compEnvC scope cl A X.env) fp) ifs (tT X.K W0 (trIf n (blkTC C scope) ifs))) ∧
    (∀ (s : Shared) (H : Hp) (A : Addr) (cl : List (Str × Addr)) (fp : List Addr), PE (X.blk s H scope (compEnvC scope cl A X.env) fp) elt (tE X.K W0 (trE n (blkTC C scope) elt))) := by
  have ok : BlkOk X.N X.env.scope scope (ownOf C.N scope) := by
    rw [c.N, c.sc]
    exact blkOk_by hb
  have cb := fun s H A cl fp => c.blk ok s H A cl fp
  exact ⟨ok, fun s H A cl fp => so_G (cb s H A cl fp) n tg g hg, fun s H A cl fp => (ih _ _ _ _ (cb s H A cl fp)).f ifs, fun s H A cl fp => (ih _ _ _ _ (cb s H A cl fp)).e elt⟩
theorem so_e (ih : ∀ (C : TC) (X : Cx) (W : WX) (lev : Nat), COk C X W lev → So n C X W) (c : COk C X W lev) (e : Expr) : PE X e (tE X.K W (trE (n + 1) C e)) := by
  have q := ih C X W lev c
  unfold trE
  split
  · exact pm_const pe_non fun _ _ => rfl
  · exact pm_const pe_bl fun _ _ => rfl
  · exact pm_const pe_int fun _ _ => rfl
  · exact pm_const pe_str fun _ _ => rfl
  · exact so_name c
  · exact pm_bin (q.e _) (q.e _)
  · split
    · rename_i h; exact pm_cmp c.hu (q.e _) (q.e _) h
    · exact pm_stuck
  · split
    · rename_i h; exact pm_chain c.hu (q.e _) (q.e _) (q.e _) h
    · exact pm_stuck
  · exact pm_one (q.e _)
  · exact pm_and (q.e _) (q.e _)
  · exact pm_or (q.e _) (q.e _)
  · exact pm_not (q.e _)
  · exact pm_neg (q.e _)
  · exact pm_if (q.t _) (q.e _) (q.e _)
  · exact pm_tup (q.a _)
  · exact pm_lst (q.a _)
  · exact pm_dnew
  · split
    · rename_i l hl
      split
      · rename_i h15; exact pm_dict (q.p _ _ _ hl) (fun z => nomatch z) h15
      · exact pm_stuck
    · exact pm_stuck
  · split
    · rename_i h; exact pm_attrX (gE C.G c.g _) (fun cl h => c.g.xa _ _ h) (q.e _) h
    · exact pm_stuck
  · split
    · exact pm_slice (q.e _) (q.o _) (q.o _)
    · split
      · rename_i h; exact pm_idx (by have := c.hu; omega) (q.e _) (q.e _) (plain_ok h)
      · exact pm_stuck
  · split
    · rename_i g hg
      split
      · rename_i h
        rw [Bool.and_eq_true] at h
        obtain ⟨ok, h1, h2, h3⟩ := so_lc ih c hg h.1
        exact pm_lc c.calm (by rw [c.N]; exact c.nd) (q.i _ _) ok h1 h2 h3 (fold_ok h.2 _)
      · exact pm_stuck
    · exact pm_stuck
  · split
    · rename_i hx
      subst hx
      split
      · rename_i e cn pc
        split
        · rename_i h
          simp only [Bool.and_eq_true] at h
          obtain ⟨⟨⟨⟨h1, h2⟩, h3⟩, h4⟩, h5⟩ := h
          split
          · rename_i tb ht
            obtain ⟨i1, i2⟩ := c.g.isi _ _ ht
            exact pm_isi (c.gl h1) (c.g.fr _ h2) i1 (c.gl h3) (plainX_ok h4).1 (q.e _) h5 i2
          · exact pm_stuck
        · exact pm_stuck
      · exact pm_stuck
    · split
      · rename_i h
        exact so_callN c h (fun e => by rw [e]; exact trA_nil n C) (q.a _)
      · exact pm_stuck
  · split
    · rename_i h
      simp only [Bool.and_eq_true, decide_eq_true_eq] at h
      obtain ⟨⟨⟨h1, h2⟩, h3⟩, h4⟩ := h
      refine pm_meth (c.room.mono (Nat.le_succ _)) c.tk (q.e _) (q.a _) h1 h2 h3 h4 (fun e => by rw [e]; exact trA_nil n C) methAlts_ok ⟨fun cl k φ hk => ?_⟩
      unfold ownB at hk
      cases r : C.G.meA.lookup (_, cl) with
      | none => rw [r] at hk; cases hk
      | some k' =>
        rw [r] at hk
        cases hk
        exact c.g.own _ _ _ r
    · exact pm_stuck
  · exact pm_stuck
theorem so_t (ih : ∀ (C : TC) (X : Cx) (W : WX) (lev : Nat), COk C X W lev → So n C X W) (c : COk C X W lev) (e : Expr) : PT X e (tT X.K W (trT (n + 1) C e)) := by
  have q := ih C X W lev c
  unfold trT
  split
  · exact (q.w _).pt
  · exact tm_not (q.t _)
  · split
    · rename_i h; exact tm_cmp c.hu (q.e _) (q.e _) h
    · exact pt_stuck
  · split
    · rename_i h; exact tm_chain c.hu (q.e _) (q.e _) (q.e _) h
    · exact pt_stuck
  · exact pt_stuck
  · exact pt_stuck
  · rename_i h1 h2 h3 h4 h5 h6
    refine tm_tru (q.e _) fun wh => ?_
    cases e <;> first
      | rfl
      | exact absurd rfl (h1 _ _ _)
      | exact absurd rfl (h5 _ _ _ _)
      | exact absurd rfl (h6 _ _ _ _)
      | (rename_i op _ _; cases op <;> first | rfl | exact absurd rfl (h2 _ _))
theorem so_w (ih : ∀ (C : TC) (X : Cx) (W : WX) (lev : Nat), COk C X W lev → So n C X W) (c : COk C X W lev) (e : Expr) : PW X e (tT X.K W (trW (n + 1) C e)) := by
  have q := ih C X W lev c
  unfold trW
  split
  · rename_i op x p
    cases op with
    | And => exact pw_and1 (q.t _)
    | Or => exact pw_or1 (q.t _)
  · exact wm_and (q.t _) (q.w _)
  · exact wm_or (q.t _) (q.w _)
  · exact pw_stuck
theorem so_f (ih : ∀ (C : TC) (X : Cx) (W : WX) (lev : Nat), COk C X W lev → So n C X W) (c : COk C X W lev) (es : List Expr) : PTs X es (tT X.K W (trIf (n + 1) C es)) := by
  have q := ih C X W lev c
  unfold trIf
  split
  · exact ptsm_nil
  · exact pts_one (q.t _)
  · exact pts_stuck
theorem so_a (ih : ∀ (C : TC) (X : Cx) (W : WX) (lev : Nat), COk C X W lev → So n C X W) (c : COk C X W lev) (es : List Expr) : PA X es (tDs X.K W (trA (n + 1) C es)) := by
  have q := ih C X W lev c
  unfold trA
  split
  · exact am_nil
  · exact am_star (q.e _) (q.a _)
  · rename_i e r h
    refine am_consA (q.e _) (q.a _) (star_cons ?_ _ _)
    cases e <;> first | rfl | exact absurd rfl (h _ _)
theorem so_o (ih : ∀ (C : TC) (X : Cx) (W : WX) (lev : Nat), COk C X W lev → So n C X W) (c : COk C X W lev) (o : Option Expr) : PO X o (tP X.K W (trO (n + 1) C o)) := by
  have q := ih C X W lev c
  unfold trO
  split
  · exact om_none
  · exact om_some (q.e _)
theorem so_p (ih : ∀ (C : TC) (X : Cx) (W : WX) (lev : Nat), COk C X W lev → So n C X W) (c : COk C X W lev) (ks : List (Option Expr)) (vs : List Expr) (l : List (ME × ME)) (h : trP (n + 1) C ks vs = some l) : PMs X W ks vs l := by
  have q := ih C X W lev c
  unfold trP at h
  split at h
  · cases h; exact .nil
  · rename_i k ks v vs
    cases r : trP n C ks vs with
    | none => rw [r] at h; cases h
    | some l' =>
      rw [r] at h
      cases h
      exact .cons (q.e _) (q.e _) (q.p _ _ _ r)
  · cases h
theorem so_i (ih : ∀ (C : TC) (X : Cx) (W : WX) (lev : Nat), COk C X W lev → So n C X W) (c : COk C X W lev) (tg e : Expr) : PI X tg e (tI X.K W (trI (n + 1) C tg e)) := by
  have q := ih C X W lev c
  unfold trI
  split
  · split
    · rename_i hx
      subst hx
      split
      · rename_i h
        simp only [Bool.and_eq_true] at h
        exact im_rng1 (c.gl h.1.1) (c.g.fr _ h.1.2) (q.a _) h.2
      · exact pi_stuck
    · split
      · rename_i hx
        subst hx
        split
        · split
          · rename_i h
            simp only [Bool.and_eq_true] at h
            exact im_enu (c.gl h.1.1) (c.g.fr _ h.1.2) (q.a _) h.2
          · exact pi_stuck
        · exact pi_stuck
      · exact im_any (q.e _)
  · split
    · rename_i hx
      subst hx
      split
      · rename_i h
        simp only [Bool.and_eq_true] at h
        exact im_rng2 (c.gl h.1.1.1) (c.g.fr _ h.1.1.2) (q.a _) h.1.2 h.2
      · exact pi_stuck
    · exact im_any (q.e _)
  · exact im_any (q.e _)
end
/-- the reading of every expression is right -/
theorem so : ∀ (n : Nat) (C : TC) (X : Cx) (W : WX) (lev : Nat), COk C X W lev → So n C X W
  | 0, C, X, W, lev, c => ⟨fun _ => pm_stuck, fun _ => pt_stuck, fun _ => pw_stuck, fun _ => pts_stuck, fun es => by
      cases es with
      | nil => exact am_nil
      | cons a es => exact pa_stuck, fun _ => po_stuck, fun _ _ _ h => (by cases h), fun _ _ => pi_stuck⟩
  | n + 1, C, X, W, lev, c => ⟨so_e (so n) c, so_t (so n) c, so_w (so n) c, so_f (so n) c, so_a (so n) c, so_o (so n) c, so_p (so n) c, so_i (so n) c⟩
end Pc

set_option Elab.async false
set_option linter.all false
set_option maxRecDepth 100000
set_option maxHeartbeats 4000000
set_option autoImplicit false
/-! PcS3: statements -/
namespace Pc
open PySem PySem.Spec PyProof.Rows L2

def flagsOf (mu : List Str) (ts : List Expr) : List Bool := ts.map fun t => match t with
  | .Name x _ => mu.contains x
  | _ => false
def trM (n : Nat) (C : TC) : List Bool → List Expr → MDs
  | b :: bs, e :: es => mConsA b (trE n C e) (trM n C bs es)
  | _, [] => mNil
  | [], _ :: _ => fun _ _ => .stuck
def trLc (n : Nat) (C : TC) (elt tg iter : Expr) (ifs : List Expr) (scope : Scope) : Option ME := match trG (blkTC C scope) n tg with
  | some g => if blkC C.N C.sc scope (ownOf C.N scope) && notSet iter then some (mLc (trI n C tg iter) g (trIf n (blkTC C scope) ifs) (mA false (trE n (blkTC C scope) elt)) ((ownOf C.N scope).map (·.2))) else none
  | none => none
def isLoc (sc : Scope) (x : Str) : Bool := match sc.names.lookup x with
  | some .local => true
  | _ => false
mutual
def trSt : Nat → TC → Stmt → MS
  | 0, _, _ => mStS
  | n + 1, C, s => match s with
    | .Pass _ => mNext
    | .Break _ => mBreak
    | .Continue _ => mCont
    | .Expr (.Constant (.str _) _ _) _ => mNext
    | .Expr e _ => if noComp e then mDrop (trE n C e) else mStS
    | .Return (some e) _ => mRet (trE n C e)
    | .Return none _ => mRetN
    | .If c a b _ => mIfS (trT n C c) (trS n C a) (trS n C b)
    | .For tg iter body [] _ => (match trG C n tg with
      | some g => if notSet iter then mFor (trI n C tg iter) g (trS n C body) else mStS
      | none => mStS)
    | .While c body [] _ => whileL (trT n C c) (trS n C body) C.G.wf
    | .Assign [.Name x p] (.ListComp elt [⟨tg, iter, ifs, 0⟩] scope pv) _ => (match ixOf x C.N, trLc n C elt tg iter ifs scope with
      | some i, some m => if locB C x then mSet (C.mu.contains x) i m else mStS
      | _, _ => mStS)
    | .Assign [.Name x p] e _ => (match ixOf x C.N with
      | some i => if locB C x && noComp e then mSet (C.mu.contains x) i (trE n C e) else mStS
      | none => mStS)
    | .Assign [.Tuple ts k p] (.Tuple vs k2 p2) _ => (match swO C.sc ts vs with
      | some (some _) => (match ts, vs with
        | [.Name x _, .Name y _], [a, b] => (match ixOf x C.N, ixOf y C.N with
          | some i, some j => if swO C.sc ts vs = some (some [x, y]) ∧ i ≠ j ∧ isLoc C.sc x = true ∧ isLoc C.sc y = true ∧ noStar a = true ∧ noStar b = true then mPar [i, j] (trM n C (flagsOf C.mu ts) [a, b]) else mStS
          | _, _ => mStS)
        | [.Name x _, .Name y _, .Name z _], [a, b, c] => (match ixOf x C.N, ixOf y C.N, ixOf z C.N with
          | some i, some j, some l => if swO C.sc ts vs = some (some [x, y, z]) ∧ (i ≠ j ∧ i ≠ l ∧ j ≠ l) ∧ (isLoc C.sc x = true ∧ isLoc C.sc y = true ∧ isLoc C.sc z = true) ∧ noStar a = true ∧ noStar b = true ∧ noStar c = true then mPar [i, j, l] (trM n C (flagsOf C.mu ts) [a, b, c]) else mStS
          | _, _, _ => mStS)
        | _, _ => mStS)
      | some none => (match trG C n (.Tuple ts k p) with
        | some g => if vs.all noStar then mAsg g (mTup (trM n C (flagsOf C.mu ts) vs)) else mAsg g (trE n C (.Tuple vs k2 p2))
        | none => mStS)
      | none => mStS)
    | .Assign [.Tuple ts k p] e _ => (match trG C n (.Tuple ts k p) with
      | some g => mAsg g (trE n C e)
      | none => mStS)
    | .Assign [.Subscript o i _] e _ => mSub false (trE n C e) (trE n C o) (trE n C i)
    | .Assign [.Attribute o f _] e _ => mFld (C.G.muA.contains f) (okB C.G) f (trE n C e) (trE n C o)
    | _ => mStS
def trS : Nat → TC → List Stmt → MS
  | 0, _, _ => mStS
  | n + 1, C, ss => match ss with
    | [] => mNext
    | s :: r => mSeq (trSt n C s) (trS n C r)
end
section
variable {n lev : Nat} {C : TC} {X : Cx} {W : WX}
theorem so_M (c : COk C X W lev) : ∀ (bs : List Bool) (es : List Expr), es.all noStar = true → PA X es (tDs X.K W (trM n C bs es))
  | b :: bs, e :: es, h => by
    rw [List.all_cons, Bool.and_eq_true] at h
    exact am_consA ((so n C X W lev c).e e) (so_M c bs es h.2) (star_cons h.1 _ _)
  | [], [], _ => am_nil
  | _ :: _, [], _ => am_nil
  | [], _ :: _, _ => pa_stuck
theorem isLoc_ok (c : COk C X W lev) {x : Str} (h : isLoc C.sc x = true) : X.env.scope.names.lookup x = some .local := by
  unfold isLoc at h
  rw [c.sc]
  split at h
  · assumption
  · cases h
theorem sole_tg {ts : List Expr} {k : Nat} {p : Pos} {e : Expr} {l : Nat} {env : PySem.Env} : swapsWithSole [.Tuple ts k p] e l env = pure false := by
  show swapsWith e (some (.Tuple ts k p)) l env = _
  exact sw_tg rfl l env
theorem sm_lcAny (c : COk C X W lev) {x : Str} {p pv pos : Pos} {i : Nat} {elt tg iter : Expr} {ifs : List Expr} {scope : Scope} {m : ME} {mu : Bool} (hi : ixOf x C.N = some i) (hl : locB C x = true) (hm : trLc n C elt tg iter ifs scope = some m) :
    PS X (.Assign [.Name x p] (.ListComp elt [⟨tg, iter, ifs, 0⟩] scope pv) pos) (tS X.K W (mSet mu i m)) := by
  have q := so n C X W lev c
  have hN : X.N.Nodup := by rw [c.N]; exact c.nd
  have hi' : X.N[i]? = some x := by rw [c.N]; exact ixOf_ok hi
  obtain ⟨l1, l2⟩ := c.loc hl
  unfold trLc at hm
  split at hm
  · rename_i g hg
    split at hm
    · rename_i h
      cases hm
      rw [Bool.and_eq_true] at h
      obtain ⟨ok, h1, h2, h3⟩ := so_lc (so n) c hg h.1
      cases hsw : swB X.env.scope scope x p pv with
      | true =>
        have hyl : X.env.scope.names.lookup x = some .local := by
          unfold swB at hsw
          rw [Bool.and_eq_true, Bool.and_eq_true] at hsw
          exact beq_iff_eq.mp hsw.1.1
        exact sm_setLc c.calm hN hi' hyl (by rw [sw_lc c.kind, hsw]) (q.i _ _) ok h1 h2 h3 (fold_ok h.2 _)
      | false =>
        exact sm_set hN hi' l1 l2 (pm_lc c.calm hN (q.i _ _) ok h1 h2 h3 (fold_ok h.2 _)) (by rw [sw_lc c.kind, hsw])
    · cases hm
  · cases hm
structure Ss (n : Nat) (C : TC) (X : Cx) (W : WX) : Prop where
  st : ∀ s, PS X s (tS X.K W (trSt n C s))
  ss : ∀ s, PSs X s (tS X.K W (trS n C s))
theorem ss_st (hp : PassesOwn (model X.prog X.w) X.A X.env X.xe) (c : COk C X W lev) (ih : Ss n C X W) (s : Stmt) : PS X s (tS X.K W (trSt (n + 1) C s)) := by
  have q := so n C X W lev c
  have hN : X.N.Nodup := by rw [c.N]; exact c.nd
  have ix : ∀ {x i}, ixOf x C.N = some i → X.N[i]? = some x := fun h => by rw [c.N]; exact ixOf_ok h
  unfold trSt
  split
  · exact sm_pass
  · exact sm_break
  · exact sm_cont
  · exact sm_doc
  · split
    · rename_i h; exact sm_expr (q.e _) (sw_no h _ _ _)
    · exact sm_stuck
  · exact sm_ret (q.e _)
  · exact sm_retN
  · exact sm_if (q.t _) (ih.ss _) (ih.ss _)
  · split
    · rename_i g hg
      split
      · rename_i h
        exact sm_for hp c.calm (q.i _ _) (so_G c n _ g hg) (ih.ss _) (fold_ok h _)
      · exact sm_stuck
    · exact sm_stuck
  · exact sm_while hp (q.t _) (ih.ss _)
  · split
    · rename_i i m hi hm
      split
      · rename_i hl
        exact sm_lcAny c hi hl hm
      · exact sm_stuck
    · exact sm_stuck
  · split
    · rename_i i hi
      split
      · rename_i h
        rw [Bool.and_eq_true] at h
        obtain ⟨l1, l2⟩ := c.loc h.1
        exact sm_set hN (ix hi) l1 l2 (q.e _) (sw_no h.2 _ _ _)
      · exact sm_stuck
    · exact sm_stuck
  · split
    · split
      · split
        · rename_i i j hi hj
          split
          · rename_i h
            obtain ⟨h1, h2, h3, h4, h5, h6⟩ := h
            exact sm_par2 c.calm hN (ix hi) (ix hj) h2 (isLoc_ok c h3) (isLoc_ok c h4) (so_M c _ _ (by rw [List.all_cons, List.all_cons, h5, h6]; rfl)) (sw_eq c.kind (by rw [c.sc]; exact h1))
          · exact sm_stuck
        · exact sm_stuck
      · split
        · rename_i i j l hi hj hl
          split
          · rename_i h
            obtain ⟨h1, ⟨h2, h3, h4⟩, ⟨h5, h6, h7⟩, h8, h9, h10⟩ := h
            exact sm_par3 c.calm hN (ix hi) (ix hj) (ix hl) h2 h3 h4 (isLoc_ok c h5) (isLoc_ok c h6) (isLoc_ok c h7) (so_M c _ _ (by rw [List.all_cons, List.all_cons, List.all_cons, h8, h9, h10]; rfl)) (sw_eq c.kind (by rw [c.sc]; exact h1))
          · exact sm_stuck
        · exact sm_stuck
      · exact sm_stuck
    · rename_i hsw
      split
      · rename_i g hg
        split
        · rename_i h
          exact sm_asg (pm_tup (so_M c _ _ h)) (so_G c n _ g hg) sole_tg (sw_eq c.kind (by rw [c.sc]; exact hsw)) rfl
        · exact sm_asg (q.e _) (so_G c n _ g hg) sole_tg (sw_eq c.kind (by rw [c.sc]; exact hsw)) rfl
      · exact sm_stuck
    · exact sm_stuck
  · rename_i hne
    split
    · rename_i g hg
      refine sm_asg (q.e _) (so_G c n _ g hg) sole_tg (sw_one ?_) rfl
      split
      · exact absurd rfl (hne _ _ _)
      · rfl
    · exact sm_stuck
  · exact sm_sub (by have := c.hu; omega) (q.e _) (q.e _) (q.e _) (sw_tg rfl _ _)
  · exact sm_fld (gE C.G c.g _) (q.e _) (q.e _) (sw_tg rfl _ _)
  · exact sm_stuck
theorem ss : ∀ (n : Nat), PassesOwn (model X.prog X.w) X.A X.env X.xe → COk C X W lev → Ss n C X W
  | 0, hp, c => ⟨fun _ => sm_stuck, fun _ => sms_stuck⟩
  | n + 1, hp, c => ⟨ss_st hp c (ss n hp c), fun s => by
    unfold trS
    split
    · exact sms_nil
    · exact sms_cons ((ss n hp c).st _) ((ss n hp c).ss _)⟩
end
end Pc

set_option Elab.async false
set_option linter.all false
set_option maxRecDepth 100000
set_option maxHeartbeats 4000000
set_option autoImplicit false
/-! PcKn: defs, classes, the module's knot -/
namespace Pc
open PySem PySem.Spec PyProof.Rows L2

/-- a def of the text -/
structure FDef where
  at_ : Str × Option Str
  name : Str
  qual : Str
  ps : List Str
  N : List Str
  mu : List Str
  params : Arguments
  body : List Stmt
  scope : Scope
def FDef.defD (d : FDef) : He.DefD := ⟨d.at_, d.name, d.qual, d.params, d.body, d.scope, [], []⟩
def FDef.tc (d : FDef) (G : GE) (Y : Dy) : TC := ⟨d.N, d.scope, fun _ => true, d.mu, G, Y⟩
def startE (N : List Str) (ds : List D) : Sl := ds.map some ++ List.replicate (N.length - ds.length) none
/-- what a body comes to -/
def runS : RS → R RV
  | .nx _ M => .ok (.val .non) M
  | .rt rv M => .ok rv M
  | .exc c ns ds _ M => .exc c ns ds M
  | _ => .stuck
def depth : Nat := 60
def runF (G : GE) (Y : Dy) (d : FDef) (ds : List D) (M : Mem) : R RV := gcR M.length (runS (trS depth (d.tc G Y) d.body (startE d.N ds) M))
abbrev Tab := List FDef
def Tab.fn (T : Tab) (x : Str) : Option FDef := T.find? fun d => decide (d.at_ = (x, none))
def Tab.me (T : Tab) (c m : Str) : Option FDef := T.find? fun d => decide (d.at_ = (c, some m))
def mkDy (G : GE) (T : Tab) : Nat → Dy
  | 0 => ⟨fun _ _ _ => .stuck, fun _ _ _ _ => .stuck⟩
  | k + 1 => ⟨fun x ds M => match T.fn x with
      | some d => runF G (mkDy G T k) d ds M
      | none => .stuck, fun c m ds M => match T.me c m with
      | some d => runF G (mkDy G T k) d ds M
      | none => .stuck⟩

section
variable {K : PySem.W.Frag}
theorem start_rel {F : Hp} {io : List Addr} {N : List Str} {ds : List D} {vs : List V} (h : RelL K F io ds vs) : ER K F io (L2.start N vs) (startE N ds) := by
  have hl := h.length
  refine ⟨by unfold L2.start startE; rw [List.length_append, List.length_append, List.length_map, List.length_map, List.length_replicate, List.length_replicate, hl], fun i d e => ?_⟩
  unfold startE at e
  unfold L2.start
  by_cases hi : i < ds.length
  · rw [List.getElem?_append_left (by rw [List.length_map]; exact hi), List.getElem?_map] at e
    cases q : ds[i]? with
    | none => rw [q] at e; cases e
    | some d' =>
      rw [q] at e
      cases e
      obtain ⟨v, h1, h2⟩ := h.get q
      exact ⟨v, by rw [List.getElem?_append_left (by rw [List.length_map, ← hl]; exact hi), List.getElem?_map, h1]; rfl, h2⟩
  · rw [List.getElem?_append_right (by rw [List.length_map]; omega), List.getElem?_replicate] at e
    split at e
    · cases e
    · cases e
theorem post_run {W : WX} {F H : Hp} {io : List Addr} {σ : St} {Q : VK} {r : RS} {E : Value → Option Addr → Hp → Prop} (h : PostE K (fun c d _ H' => E c d H') F io H σ Q (runS r)) : PostS K (fun c d _ H' => E c d H') F io H { nx := fun _ H' => Q .non H', rt := Q } r := by
  cases r with
  | nx env M => exact fun F' io' H' σ' a b c => h F' io' H' .non a b rfl
  | rt rv M => exact h
  | exc c ns ds env M => exact fun F' io' H' dd σ' a b c d => h F' io' H' dd a b d
  | bk env M => exact False.elim h
  | ct env M => exact False.elim h
  | stuck => exact h
end

/-- the module's facts, apart from a context -/
structure GP (G : GE) (Y : Dy) (P : Program) (w : World) (K : PySem.W.Frag) (mg : Str → Option Value) (base : Heap) (lev : Nat) : Prop where
  con : ∀ x d, G.con.lookup x = some d → ∃ u v, mg x = some u ∧ RelV v u ∧ ∀ F io, Rel K F io d v
  fns : ∀ x k, G.fnA.lookup x = some k → ∃ f, mg x = some (.ref f) ∧ PySem.W.keepIn K (.ref f) = true ∧ ∃ fd ps, FnOkG P w K mg base (L2.CX P w) lev f fd ps (spF K (Y.call x) k) ∧ Binds K fd ps []
  cls : ∀ x b k, G.clA.lookup x = some (b, k) → mg x = some (.ref (He.ga K x)) ∧ ∃ fI, Mk K (He.ga K x) fI ∧ ∃ fd ps, FnOkG P w K mg base (L2.CX P w) lev fI fd ps (spF K (Y.meth x "__init__") k) ∧ Binds K fd ps []
  own : ∀ name c k, G.meA.lookup (name, c) = some k → ∃ g, Cls K (He.ga K c) ∧ Meth K (He.ga K c) name g ∧ ∃ fd ps, FnOkG P w K mg base (L2.CX P w) lev g fd ps (spF K (Y.meth c name) k) ∧ Binds K fd ps []
  ok : ∀ c f, G.okA.contains (c, f) = true → Cls K (He.ga K c) ∧ NoAttr K (He.ga K c) f
  fr : ∀ x, G.frA.contains x = true → mg x = none
  exs : ∀ x fm fl, G.exA.lookup x = some (fm, fl) → mg x = some (.ref (He.ga K x)) ∧ ExaOk P K (He.ga K x) fm fl
  xa : ∀ c f, G.xaA.contains (c, f) = true → XfC K (He.ga K c) ∧ PySem.W.findIn K (.ref (He.ga K c)) f = some none
  isi : ∀ c tb, G.isA.lookup c = some tb → (∃ u, ClsN K mg c u) ∧ ∀ k b, tb.lookup k = some b → KdOk K k ∧ ∃ u, ClsN K mg c u ∧ PySem.W.kitOne K (tyV K k) u = some b
theorem GP.gok {G : GE} {Y : Dy} {lev : Nat} {X : Cx} (g : GP G Y X.prog X.w X.K X.mg X.base lev) (gd : X.A.guards = some []) : GOk G Y X lev where
  con := g.con
  fns := fun x k h => by obtain ⟨f, h1, h2, h3⟩ := g.fns x k h; exact ⟨f, h1, h2, ⟨gd, h3⟩⟩
  cls := fun x b k h => by obtain ⟨h1, f, h2, h3⟩ := g.cls x b k h; exact ⟨h1, f, h2, ⟨gd, h3⟩⟩
  own := fun n c k h => by obtain ⟨f, h1, h2, h3⟩ := g.own n c k h; exact ⟨f, h1, h2, ⟨gd, h3⟩⟩
  ok := g.ok
  fr := g.fr
  gd := gd
  exs := g.exs
  xa := g.xa
  isi := g.isi
section
variable {P : Program} {w : World} {K : PySem.W.Frag} {mg : Str → Option Value} {base : Heap} {G : GE} {Y : Dy} {lev : Nat}
/-- a def by its body, where no repr is under way -/
theorem fn_ofG {x qual : Str} {params : Arguments} {body : List Stmt} {scope : Scope} {f : Addr} {fd : FuncData} {N ps : List Str} {k : Nat} {sp : Sp} {CX : CXT} (F : FunD K x qual params body scope [] [] f fd) (S : FnScope N ps scope) (len : ∀ vs H Q E, sp vs H Q E → vs.length = ps.length)
    (hbody : ∀ (cdv : Value) (A : Around) (outer : List PySem.Env) (s : Shared) (H : Hp) (vs : List V) (Q : VK) (E : XK), A.guards = some [] → Room k (A.deeper (envOfC qual scope s.heap.objs.size f cdv)) → sp vs H Q E →
      ∃ t, PSs (cxOf CX P w K mg base N qual scope f cdv A outer s H E) body t ∧ t { nx := fun _ H' => Q .non H', rt := Q } (L2.start N vs) H) : FnOkG P w K mg base CX (k + 1) f fd ps sp := by
  obtain ⟨oc, od, dV, kV, doc, pm, an, cdv, ct, osl, rfl, lk, hcd, _, _⟩ := F.ex
  refine ⟨len, fun A outer s H args us vs Q E hgd hr e0 hb r hsp => ?_⟩
  have hl := len _ _ _ _ hsp
  have KX : K.In s.heap := e0.mod.kin.keeps fun b o e => (e0.bs b o e).1
  have lim : s.heap.NoLimit := e0.mod.nolimit.keeps fun b o e => (e0.bs b o e).1
  have hkind : ∀ y ∈ ps.zip us, scope.names.lookup y.1 = some .local ∨ (scope.names.lookup y.1 = some .cell ∧ ((cellsFrom (s.heap.objs.size + 1) scope.names []).lookup y.1).isSome = true) := fun ⟨n, v⟩ hy =>
    (S.par n (List.of_mem_zip hy).1).elim .inl fun q => .inr ⟨q, PySem.W.cellsFrom_some _ _ _ (.inl q)⟩
  refine codeAny_call_function hr.depth (KX _ _ lk) rfl S.co S.gen rfl (PySem.W.codeRec_of KX hcd) (hb _ _ _ _ (wpAny_newFunctionEnv_cells S.kind hkind fun env he s1 x => ?_))
  subst he
  refine ⟨lim.keeps x.toInCall.keep, codeAny_func ?_⟩
  obtain ⟨t, ht, hq⟩ := hbody cdv A outer s H vs Q E hgd (hr.deeper _) hsp
  have I : Inv (cxOf CX P w K mg base N qual scope f cdv A outer s H E) [] (L2.start N vs) H s1 := inv_start S hr.hd e0 hl r x
  have fin : ∀ {σ' : L2.St} {H' : Hp} {v : V} {u : Value} {s' : Shared}, Inv (cxOf CX P w K mg base N qual scope f cdv A outer s H E) [] σ' H' s' → L2.RelV v u → Q v H' → CE outer P w H s Q u s' :=
    fun {σ' H' v u s'} J rv q => ⟨v, H', J.os, J.bare, J.base, J.hok, rv, q⟩
  refine wpAny_mono (ht.run [] s1 (L2.start N vs) H _ I hq) (fun fl s' hs => ?_) fun e s' hs => hs
  cases fl with
  | ret u =>
    obtain ⟨v, σ', H', J, rv, q⟩ := hs
    exact fin J rv q
  | next =>
    obtain ⟨σ', H', J, q⟩ := hs
    exact fin (v := V.non) (u := Value.none) J rfl q
  | brk =>
    obtain ⟨_, _, _, q⟩ := hs
    exact False.elim q
  | cont =>
    obtain ⟨_, _, _, q⟩ := hs
    exact False.elim q
/-- one def keeps its promise -/
theorem fn_of_def {d : FDef} {f : Addr} {fd : FuncData} (g : GP G Y P w K mg base lev) (F : FunD K d.name d.qual d.params d.body d.scope [] [] f fd) (S : FnScope d.N d.ps d.scope) : FnOkG P w K mg base (L2.CX P w) (lev + 2) f fd d.ps (spF K (runF G Y d) d.ps.length) := by
  refine fn_ofG F S spF_len fun cdv A outer s H vs Q E hgd hr h => ?_
  refine ⟨tS K (fun c d _ H' => E c d H') (trS depth (d.tc G Y) d.body), ?_, ?_⟩
  · refine (ss (C := d.tc G Y) (X := cxOf (L2.CX P w) P w K mg base d.N d.qual d.scope f cdv A outer s H E) (W := fun c d _ H' => E c d H') (lev := lev) depth (passes_of rfl) ?_).ss d.body
    exact ⟨S.kind, rfl, rfl, S.nd, rfl, fun _ _ => rfl, hr, takes_of rfl rfl rfl rfl, GP.gok g hgd⟩
  · obtain ⟨hl, F', io, M, ds, ha, rl, p⟩ := h
    refine ⟨F', io, startE d.N ds, M, ha, start_rel rl, post_run (W := fun c d _ H' => E c d H') (σ := []) ?_⟩
    have p' : PostE K (fun c d _ H' => E c d H') F' io H [] Q (gcR M.length (runS (trS depth (d.tc G Y) d.body (startE d.N ds) M))) := p
    exact post_gc (Nat.le_of_eq ha.len) p'
/-- nothing is asked of what is never run -/
theorem fn_none {ps : List Str} {f : Addr} {fd : FuncData} {k : Nat} : FnOkG P w K mg base (L2.CX P w) lev f fd ps (spF K (fun _ _ => .stuck) k) :=
  ⟨fun vs H Q E ⟨_, _, _, _, _, _, _, p⟩ => p.elim, fun A outer s H args us vs Q E _ _ _ _ _ ⟨_, _, _, _, _, _, _, p⟩ => p.elim⟩
/-- the module's facts that its text alone gives -/
structure GM (G : GE) (T : Tab) (P : Program) (K : PySem.W.Frag) (mg : Str → Option Value) : Prop where
  con : ∀ x d, G.con.lookup x = some d → ∃ u v, mg x = some u ∧ RelV v u ∧ ∀ F io, Rel K F io d v
  fns : ∀ x k, G.fnA.lookup x = some k → ∃ f d fd, mg x = some (.ref f) ∧ T.fn x = some d ∧ FunD K d.name d.qual d.params d.body d.scope [] [] f fd ∧ FnScope d.N d.ps d.scope ∧ Binds K fd d.ps [] ∧ d.ps.length = k
  cls : ∀ x b k, G.clA.lookup x = some (b, k) → mg x = some (.ref (He.ga K x)) ∧ ∃ fI d fd, Mk K (He.ga K x) fI ∧ T.me x "__init__" = some d ∧ FunD K d.name d.qual d.params d.body d.scope [] [] fI fd ∧ FnScope d.N d.ps d.scope ∧ Binds K fd d.ps [] ∧ d.ps.length = k
  own : ∀ name c k, G.meA.lookup (name, c) = some k → ∃ g d fd, Cls K (He.ga K c) ∧ Meth K (He.ga K c) name g ∧ T.me c name = some d ∧ FunD K d.name d.qual d.params d.body d.scope [] [] g fd ∧ FnScope d.N d.ps d.scope ∧ Binds K fd d.ps [] ∧ d.ps.length = k
  ok : ∀ c f, G.okA.contains (c, f) = true → Cls K (He.ga K c) ∧ NoAttr K (He.ga K c) f
  fr : ∀ x, G.frA.contains x = true → mg x = none
  exs : ∀ x fm fl, G.exA.lookup x = some (fm, fl) → mg x = some (.ref (He.ga K x)) ∧ ExaOk P K (He.ga K x) fm fl
  xa : ∀ c f, G.xaA.contains (c, f) = true → XfC K (He.ga K c) ∧ PySem.W.findIn K (.ref (He.ga K c)) f = some none
  isi : ∀ c tb, G.isA.lookup c = some tb → (∃ u, ClsN K mg c u) ∧ ∀ k b, tb.lookup k = some b → KdOk K k ∧ ∃ u, ClsN K mg c u ∧ PySem.W.kitOne K (tyV K k) u = some b
theorem knot {T : Tab} (m : GM G T P K mg) : ∀ k : Nat, GP G (mkDy G T k) P w K mg base (2 * k)
  | 0 => ⟨m.con, fun x k h => by
      obtain ⟨f, d, fd, h1, h2, h3, h4, h5, h6⟩ := m.fns x k h
      exact ⟨f, h1, h3.kp, fd, d.ps, fn_none, h5⟩, fun x b k h => by
      obtain ⟨h1, fI, d, fd, h2, h3, h4, h5, h6, h7⟩ := m.cls x b k h
      exact ⟨h1, fI, h2, fd, d.ps, fn_none, h6⟩, fun n c k h => by
      obtain ⟨g, d, fd, h1, h2, h3, h4, h5, h6, h7⟩ := m.own n c k h
      exact ⟨g, h1, h2, fd, d.ps, fn_none, h6⟩, m.ok, m.fr, m.exs, m.xa, m.isi⟩
  | n + 1 => by
    have ih := knot m n
    refine ⟨m.con, fun x k h => ?_, fun x b k h => ?_, fun nm c k h => ?_, m.ok, m.fr, m.exs, m.xa, m.isi⟩
    · obtain ⟨f, d, fd, h1, h2, h3, h4, h5, h6⟩ := m.fns x k h
      refine ⟨f, h1, h3.kp, fd, d.ps, ?_, h5⟩
      have e : (mkDy G T (n + 1)).call x = runF G (mkDy G T n) d := by
        funext ds M
        show (match T.fn x with
          | some d => runF G (mkDy G T n) d ds M
          | none => .stuck) = _
        rw [h2]
      rw [e, ← h6]
      exact fn_of_def ih h3 h4
    · obtain ⟨h1, fI, d, fd, h2, h3, h4, h5, h6, h7⟩ := m.cls x b k h
      refine ⟨h1, fI, h2, fd, d.ps, ?_, h6⟩
      have e : (mkDy G T (n + 1)).meth x "__init__" = runF G (mkDy G T n) d := by
        funext ds M
        show (match T.me x "__init__" with
          | some d => runF G (mkDy G T n) d ds M
          | none => .stuck) = _
        rw [h3]
      rw [e, ← h7]
      exact fn_of_def ih h4 h5
    · obtain ⟨g, d, fd, h1, h2, h3, h4, h5, h6, h7⟩ := m.own nm c k h
      refine ⟨g, h1, h2, fd, d.ps, ?_, h6⟩
      have e : (mkDy G T (n + 1)).meth c nm = runF G (mkDy G T n) d := by
        funext ds M
        show (match T.me c nm with
          | some d => runF G (mkDy G T n) d ds M
          | none => .stuck) = _
        rw [h3]
      rw [e, ← h7]
      exact fn_of_def ih h4 h5
end
end Pc

set_option Elab.async false
set_option linter.all false
set_option maxRecDepth 100000
set_option maxHeartbeats 2000000
set_option autoImplicit false
/-! PcX7: the tables' new parts, seen in K; a law's end where no repr is under way -/
namespace Pc
open PySem PySem.Spec PyProof.Rows L2
def clvB (K : PySem.W.Frag) (c : Str) : Option Value := match PySem.W.nsIn K mainGlobals c with
  | some (some (.ref a)) => if a = He.ga K c then some (.ref a) else none
  | some none => (match bootBuiltins c with
    | some (.type T) => if c = ("__name__" : Str) then none else some (.type T)
    | _ => none)
  | _ => none
theorem clvB_ok {K : PySem.W.Frag} {h : Heap} {mg : Str → Option Value} (X : K.In h) (N : h.Ns mainGlobals mg) {c : Str} {u : Value} (e : clvB K c = some u) : ClsN K mg c u := by
  unfold clvB at e
  split at e
  · rename_i a ha
    split at e
    · rename_i hb
      cases e
      subst hb
      exact .inl ⟨rfl, PySem.W.mg_of X N ha⟩
    · cases e
  · rename_i hn
    split at e
    · rename_i T hT
      split at e
      · cases e
      · rename_i hx
        cases e
        exact .inr ⟨T, rfl, PySem.W.mg_none_of X N hn, hT, hx⟩
    · cases e
  · cases e
def xkB (K : PySem.W.Frag) (C : Addr) : Bool := (PySem.W.clsIn K C).isSome && decide (PySem.W.findIn K (.ref C) "__getattribute__" = some (some (.builtin "BaseException.__getattribute__"))) && decide (PySem.W.findIn K (.ref C) "__getattr__" = some none) &&
  decide (PySem.W.subIn K (.ref C) (.type "BaseException") = some true) && decide (PySem.W.findIn K (.ref C) "__class__" = some (some (.builtin "object.__class__"))) && decide (PySem.W.specialIn K (.builtin "object.__class__") "__get__" = some (some (.builtin "getset_descriptor.__get__"))) &&
  decide (PySem.W.takesIn K (.builtin "object.__class__") = some true) && decide (PySem.W.mroIn K C (.type "object") = some true)
theorem xkB_ok {K : PySem.W.Frag} {C : Addr} (h : xkB K C = true) : XkC K C := by
  unfold xkB at h
  simp only [Bool.and_eq_true, decide_eq_true_eq] at h
  obtain ⟨⟨⟨⟨⟨⟨⟨h1, h2⟩, h3⟩, h4⟩, h5⟩, h6⟩, h7⟩, h8⟩ := h
  exact ⟨h1, h2, h3, h4, h5, h6, h7, h8⟩
def okCB (K : PySem.W.Frag) (c : Str) : Bool := (He.Fa.cls c).ok K && decide (PySem.W.findIn K (.ref (He.ga K c)) "__class__" = some (some (.builtin "object.__class__"))) && decide (PySem.W.specialIn K (.builtin "object.__class__") "__get__" = some (some (.builtin "getset_descriptor.__get__"))) &&
  decide (PySem.W.takesIn K (.builtin "object.__class__") = some true) && decide (PySem.W.mroIn K (He.ga K c) (.type "object") = some true)
theorem okCB_ok {K : PySem.W.Frag} {c : Str} (h : okCB K c = true) : OkC K (He.ga K c) := by
  unfold okCB at h
  simp only [Bool.and_eq_true, decide_eq_true_eq] at h
  obtain ⟨⟨⟨⟨h1, h2⟩, h3⟩, h4⟩, h5⟩ := h
  exact ⟨He.cls_ok h1, h2, h3, h4, h5⟩
def kdB (K : PySem.W.Frag) (k : Kd) : Bool := (!decide (k.1 = 7) || okCB K k.2) && (!decide (k.1 = 8) || xkB K (He.ga K k.2))
theorem kdB_ok {K : PySem.W.Frag} {k : Kd} (h : kdB K k = true) : KdOk K k := by
  unfold kdB at h
  rw [Bool.and_eq_true] at h
  refine ⟨fun e => ?_, fun e => ?_⟩
  · have z := h.1
    rw [decide_eq_true e] at z
    exact okCB_ok z
  · have z := h.2
    rw [decide_eq_true e] at z
    exact xkB_ok z
/-- the checks beyond HandS's own -/
def xB (P : Program) (G : GE) (K : PySem.W.Frag) : Bool := G.exA.all (fun p => decide (PySem.W.nsIn K mainGlobals p.1 = some (some (.ref (He.ga K p.1)))) && exaB P K (He.ga K p.1) p.2.1 p.2.2) &&
  G.xaA.all (fun p => xfB K (He.ga K p.1) && decide (PySem.W.findIn K (.ref (He.ga K p.1)) p.2 = some none)) &&
  G.isA.all (fun p => match clvB K p.1 with
    | some u => p.2.all fun q => kdB K q.1 && decide (PySem.W.kitOne K (tyV K q.1) u = some q.2)
    | none => false)
theorem mem_of_lk {α β : Type} [BEq α] [LawfulBEq α] {x : α} {y : β} : ∀ {l : List (α × β)}, l.lookup x = some y → (x, y) ∈ l
  | (a, b) :: l, h => by
    rw [List.lookup_cons] at h
    split at h
    · rename_i e
      cases h
      rw [beq_iff_eq.mp e]
      exact List.mem_cons_self
    · exact List.mem_cons_of_mem _ (mem_of_lk h)
section
variable {P : Program} {G : GE} {K : PySem.W.Frag} {h : Heap} {mg : Str → Option Value}
theorem xB_exs (X : K.In h) (N : h.Ns mainGlobals mg) (e : xB P G K = true) : ∀ x fm fl, G.exA.lookup x = some (fm, fl) → mg x = some (.ref (He.ga K x)) ∧ ExaOk P K (He.ga K x) fm fl := fun x fm fl hl => by
  unfold xB at e
  simp only [Bool.and_eq_true, List.all_eq_true] at e
  have q := e.1.1 _ (mem_of_lk hl)
  exact ⟨PySem.W.mg_of X N (of_decide_eq_true q.1), exa_ok q.2⟩
theorem xB_xa (e : xB P G K = true) : ∀ c f, G.xaA.contains (c, f) = true → XfC K (He.ga K c) ∧ PySem.W.findIn K (.ref (He.ga K c)) f = some none := fun c f hl => by
  unfold xB at e
  simp only [Bool.and_eq_true, List.all_eq_true] at e
  have q := e.1.2 _ (List.contains_iff_mem.mp hl)
  exact ⟨xfB_ok q.1, of_decide_eq_true q.2⟩
theorem xB_isi (X : K.In h) (N : h.Ns mainGlobals mg) (e : xB P G K = true) : ∀ c tb, G.isA.lookup c = some tb → (∃ u, ClsN K mg c u) ∧ ∀ k b, tb.lookup k = some b → KdOk K k ∧ ∃ u, ClsN K mg c u ∧ PySem.W.kitOne K (tyV K k) u = some b := fun c tb hl => by
  unfold xB at e
  rw [Bool.and_eq_true] at e
  have q := List.all_eq_true.mp e.2 _ (mem_of_lk hl)
  dsimp only at q
  split at q
  · rename_i u hu
    have cn := clvB_ok X N hu
    refine ⟨⟨u, cn⟩, fun k b hk => ?_⟩
    have z := List.all_eq_true.mp q _ (mem_of_lk hk)
    rw [Bool.and_eq_true] at z
    exact ⟨kdB_ok z.1, u, cn, of_decide_eq_true z.2⟩
  · cases q
end
/-! ### the end -/
section
variable {P : Program} {w : World} {K : PySem.W.Frag} {mg mb : Str → Option Value} {CX : CXT} {k : Nat} {fa a : Addr} {fd : FuncData} {x : Str} {sp : Sp} {s : Shared} {vs : List Value} {ns : List Int}
/-- the law's def called, the script alone being tracked (or nothing) -/
theorem law_run (KX : K.In s.heap) (hns : s.heap.Ns mainGlobals mg) (hb : s.heap.Ns builtinsNs mb) (hbb : ∀ x : Str, x ≠ "__name__" → mb x = bootBuiltins x) (hlim : s.heap.NoLimit) (hg : s.gens = #[])
    (ha : s.heap.get? a = some { cls := .type "list", data := .seq vs.toArray }) (hr : Room k callerA) (F : ∀ base : Heap, FnOkG P w K mg base CX k fa fd [x] sp) (hbind : ∀ (s : Shared) (u : Value), BindsTo s fd ⟨[u], []⟩ [(x, u)])
    (hCX : ∀ H e s', CX [] H s (fun _ _ _ => False) e s' → False) {H : Hp} (hok : HOk P w H s.heap) (one : ∀ b o, H b = some o → b = a ∧ K.lookup a = none ∧ ∃ ob xs, o = .frz ob (.lst xs))
    (hsp : sp [.ref a] H (fun v _ => v = .bl true) fun _ _ _ => False) :
    codeAny (model P w) callerA (.call (.ref fa) ⟨[.ref a], []⟩) (fun r s' => r = .ok (.ret (.bool true)) ∧ OldK s.heap s'.heap ∧ s'.os = s.os ∧ AllBare s'.gens) s := by
  have none_of : ∀ {b : Addr}, (b = a → False) → H b = none := fun {b} n => by
    cases q : H b with
    | none => rfl
    | some o => exact (n (one b o q).1).elim
  have dictN : ∀ {b : Addr} {o : Obj} {es : Array DictEntry} {ep : Nat}, s.heap.get? b = some o → o.data = .dict es ep → H b = none := fun {b o es ep} e d => none_of fun z => by
    rw [z, ha] at e
    cases e
    cases d
  have nsG : ∀ {b : Addr} {m : Str → Option Value}, s.heap.Ns b m → (hidT s.heap H).Ns b m := fun {b m} ⟨o, es, ep, e, d, r⟩ => ⟨o, es, ep, hidT_get e (dictN e d), d, r⟩
  have kG : K.In (hidT s.heap H) := fun b o e => hidT_get (KX b o e) (by
    cases q : H b with
    | none => rfl
    | some u =>
      obtain ⟨rfl, hk, _⟩ := one b u q
      rw [hk] at e
      cases e)
  obtain ⟨mc, l1, l2⟩ := hlim
  have M : Mod K mg (hidT s.heap H) := ⟨kG, nsG hns, ⟨mb, nsG hb, hbb⟩, ⟨mc, nsG l1, l2⟩⟩
  have e0 : Env0 P w K mg (hidT s.heap H) callerA [] s H := ⟨rfl, M, fun b o e => of_hidT e, Nat.le_of_eq (hidT_size _ _), trivial, fun b hb => absurd (show b ∈ ([] : List Addr) from hb) (by simp), hok, .of_eq hg⟩
  refine codeAny_mono ((F _).run callerA [] s H ⟨[.ref a], []⟩ [.ref a] [.ref a] _ _ rfl hr e0 (hbind s (.ref a)) (.cons rfl .nil) hsp) fun r s' h => ?_
  cases r with
  | error e => exact (hCX H e s' h).elim
  | ok fl =>
    cases fl with
    | ret u =>
      obtain ⟨v, H', os, bare, un, hok', r', q⟩ := h
      obtain rfl : v = V.bl true := q
      obtain rfl : u = Value.bool true := r'
      refine ⟨rfl, OldK.of_keep fun b o e => ?_, os, bare⟩
      cases q : H b with
      | none => exact un.keep b o e q (fun z => absurd (show b ∈ ([] : List Addr) from z) (by simp)) (by simp)
      | some u =>
        obtain ⟨_, _, ob, xs, rfl⟩ := one b u q
        obtain ⟨e1, _⟩ := hok b _ q
        obtain ⟨e2, _⟩ := hok' b _ (un.frzs b ob _ q)
        rw [e] at e1
        cases e1
        exact e2
    | next => exact False.elim h
    | brk => exact False.elim h
    | cont => exact False.elim h
theorem law_callG (KX : K.In s.heap) (hns : s.heap.Ns mainGlobals mg) (hb : s.heap.Ns builtinsNs mb) (hbb : ∀ x : Str, x ≠ "__name__" → mb x = bootBuiltins x) (hlim : s.heap.NoLimit) (hg : s.gens = #[])
    (ha : s.heap.get? a = some { cls := .type "list", data := .seq vs.toArray }) (hi : IntsAre vs ns) (hl : ns.length ≤ sizeLine) (hr : Room k callerA) (F : ∀ base : Heap, FnOkG P w K mg base CX k fa fd [x] sp) (hbind : ∀ (s : Shared) (u : Value), BindsTo s fd ⟨[u], []⟩ [(x, u)])
    (hCX : ∀ H e s', CX [] H s (fun _ _ _ => False) e s' → False) (hsp : ∀ H : Hp, SqL K H a (ns.map V.int) → sp [.ref a] H (fun v _ => v = .bl true) fun _ _ _ => False) :
    codeAny (model P w) callerA (.call (.ref fa) ⟨[.ref a], []⟩) (fun r s' => r = .ok (.ret (.bool true)) ∧ OldK s.heap s'.heap ∧ s'.os = s.os ∧ AllBare s'.gens) s := by
  have rv := vals_ints hi
  cases hk : K.lookup a with
  | some o =>
    have e := KX a o hk
    rw [ha] at e
    cases e
    refine law_run (H := fun _ => none) KX hns hb hbb hlim hg ha hr F hbind hCX (fun b u z => by cases (show (none : Option HO) = some u from z)) (fun b u z => by cases (show (none : Option HO) = some u from z)) (hsp _ (.inr ⟨_, vs.toArray, _, hk, rfl, rfl, rfl, ?_, by simpa using rv⟩))
    rw [List.size_toArray, hi.length]
    exact hl
  | none =>
    have at_ : ∀ (b : Addr) (u : HO), (if b = a then some (HO.frz { cls := .type "list", data := .seq vs.toArray } (.lst (ns.map V.int))) else none) = some u → b = a ∧ u = .frz { cls := .type "list", data := .seq vs.toArray } (.lst (ns.map V.int)) := fun b u z => by
      split at z
      · rename_i e
        cases z
        exact ⟨e, rfl⟩
      · cases z
    refine law_run (H := fun b => if b = a then some (HO.frz { cls := .type "list", data := .seq vs.toArray } (.lst (ns.map V.int))) else none) KX hns hb hbb hlim hg ha hr F hbind hCX (fun b u z => ?_) (fun b u z => ?_) (hsp _ (.inl (.inr ⟨_, if_pos rfl⟩)))
    · obtain ⟨rfl, rfl⟩ := at_ b u z
      exact ⟨ha, by rw [List.length_map]; exact hl, vs, _, rv, ha⟩
    · obtain ⟨rfl, rfl⟩ := at_ b u z
      exact ⟨rfl, hk, _, _, rfl⟩
end
/-- a law from its promise -/
theorem walk_G {l : PySem.W.OpenLaw} {n k : Nat} {q : Program} {loose : List Str} {XP : (Str → Option Value) → Heap → Prop} {YP : World → Heap → Prop} {d : DefRec} {CX : CXT} {x : Str}
    (hn : l.most = some n) (hn2 : n ≤ sizeLine) (hdf : d.params.defaults = []) (hr : Room k callerA)
    (F : ∀ (w : World) (mg : Str → Option Value) (fa : Addr) (h : Heap), YP w h → h.Ns mainGlobals mg → mg d.name = some (.ref fa) →
      ∃ (K : PySem.W.Frag) (fd : FuncData) (sp : Sp), K.In h ∧ (∀ (s : Shared) (u : Value), BindsTo s fd ⟨[u], []⟩ [(x, u)]) ∧
        (∀ (H : Hp) (a : Addr) (ns : List Int), ns.length ≤ n → SqL K H a (ns.map V.int) → sp [.ref a] H (fun v _ => v = .bl true) fun _ _ _ => False) ∧
        ∀ base : Heap, FnOkG l.prog w K mg base CX k fa fd [x] sp)
    (hCX : ∀ (H : Hp) (s : Shared) (e : Value) (s' : Shared), CX [] H s (fun _ _ _ => False) e s' → False) :
    PySem.W.WalkO q loose XP YP l.row.toRowW d [] (fun f vs => PySem.call f vs) := by
  refine Att.attach_call hn hdf fun w s₀ s₁ mg mb fa o pm cd doc a vs ns G Y ho hd hcd hmg hobj hints hlen hg => ?_
  obtain ⟨K, fd, sp, KX, hb, hsp, hF⟩ := F w mg fa _ Y G.T.g hmg
  exact law_callG KX G.T.g G.T.b G.T.builtins G.T.nolimit hg hobj hints (Nat.le_trans hlen hn2) hr hF hb (fun H e s' => hCX H s₁ e s') fun H hS => hsp H a ns hlen hS
end Pc

set_option Elab.async false
set_option linter.all false
set_option maxRecDepth 100000
set_option maxHeartbeats 2000000
set_option autoImplicit false
/-! PcHd: a law's head -/
namespace Pc
open PySem PySem.Spec PyProof.Rows L2

/-! ### what is to be seen of each def -/
def FDef.good (d : FDef) : Bool := d.params.posonlyargs.isEmpty && d.params.kwonlyargs.isEmpty && d.params.vararg.isNone && d.params.kwarg.isNone && decide (d.params.args.map (·.arg) = d.ps) &&
  (match d.scope.kind with | .function => true | _ => false) && !d.scope.isCoroutine && !d.scope.isGenerator && decide d.N.Nodup && decide (d.N.take d.ps.length = d.ps) &&
  d.ps.all (fun x => match d.scope.names.lookup x with | some .local => true | some .cell => true | _ => false) && d.scope.names.all (fun y => match y.2 with | .free => false | _ => true)
theorem FDef.of_good {d : FDef} (h : d.good = true) : FnScope d.N d.ps d.scope ∧ ∀ {K : PySem.W.Frag} {f : Addr} {fd : FuncData}, FunD K d.name d.qual d.params d.body d.scope [] [] f fd → Binds K fd d.ps [] := by
  unfold FDef.good at h
  simp only [Bool.and_eq_true, List.isEmpty_iff, Option.isNone_iff_eq_none, decide_eq_true_eq, List.all_eq_true, Bool.not_eq_true'] at h
  obtain ⟨⟨⟨⟨⟨⟨⟨⟨⟨⟨⟨h1, h2⟩, h3⟩, h4⟩, h5⟩, h6⟩, h7⟩, h8⟩, h9⟩, h10⟩, h11⟩, h12⟩ := h
  refine ⟨⟨?_, h7, h8, h9, h10, fun x hx => ?_, fun y hy e => ?_⟩, fun F => F.bindsN fun kV doc pm an cdv ct us hl => bind_plain h1 h2 h3 h4 rfl h5 (take_nodup h9 h10) hl⟩
  · split at h6
    · assumption
    · cases h6
  · have := h11 x hx
    split at this
    · exact .inl (by assumption)
    · exact .inr (by assumption)
    · cases this
  · have := h12 y hy
    rw [e] at this
    cases this
/-! ### constants -/
mutual
def conV (K : PySem.W.Frag) : D → Value → Bool
  | .non, .none => true
  | .bl b, .bool c => b == c
  | .int i, .int j _ => decide (i = j)
  | .str x, .str y _ => decide (x = y)
  | .ctup xs, .ref a => (match K.lookup a with
    | some ⟨.type c, _, .seq its _, _⟩ => decide (c = "tuple") && decide (its.size ≤ sizeLine) && conVs K xs its.toList
    | _ => false)
  | _, _ => false
def conVs (K : PySem.W.Frag) : List D → List Value → Bool
  | [], [] => true
  | d :: ds, u :: us => conV K d u && conVs K ds us
  | _, _ => false
end
mutual
theorem conV_ok {K : PySem.W.Frag} : ∀ (d : D) (u : Value), conV K d u = true → ∃ v, RelV v u ∧ ∀ F io, Rel K F io d v
  | .non, .none, _ => ⟨.non, rfl, fun _ _ => rfl⟩
  | .bl b, .bool c, h => ⟨.bl b, by rw [show b = c from beq_iff_eq.mp h]; rfl, fun _ _ => rfl⟩
  | .int i, .int j t, h => ⟨.int i, ⟨t, by rw [show i = j from of_decide_eq_true h]⟩, fun _ _ => rfl⟩
  | .str x, .str y t, h => ⟨.str x, ⟨t, by rw [show x = y from of_decide_eq_true h]⟩, fun _ _ => rfl⟩
  | .ctup xs, .ref a, h => by
    rw [conV] at h
    split at h
    · rename_i c od its n sl hk
      rw [Bool.and_eq_true, Bool.and_eq_true] at h
      obtain ⟨vs, h1, h2⟩ := conVs_ok xs its.toList h.2
      have ec : c = "tuple" := of_decide_eq_true h.1.1
      exact ⟨.ref a, rfl, fun F io => ⟨a, vs, rfl, .inr ⟨_, its, n, hk, by rw [ec], rfl, of_decide_eq_true h.1.2, h1⟩, h2 F io⟩⟩
    · cases h
theorem conVs_ok {K : PySem.W.Frag} : ∀ (ds : List D) (us : List Value), conVs K ds us = true → ∃ vs, Vals vs us ∧ ∀ F io, RelL K F io ds vs
  | [], [], _ => ⟨[], .nil, fun _ _ => rfl⟩
  | d :: ds, u :: us, h => by
    rw [conVs, Bool.and_eq_true] at h
    obtain ⟨v, h1, h2⟩ := conV_ok d u h.1
    obtain ⟨vs, h3, h4⟩ := conVs_ok ds us h.2
    exact ⟨v :: vs, .cons h1 h3, fun F io => ⟨v, vs, rfl, h2 F io, h4 F io⟩⟩
end
def conB (K : PySem.W.Frag) (p : Str × D) : Bool := match PySem.W.nsIn K mainGlobals p.1 with
  | some (some u) => conV K p.2 u
  | _ => false
theorem conB_ok {K : PySem.W.Frag} {h : Heap} {mg : Str → Option Value} (X : K.In h) (G : h.Ns mainGlobals mg) {p : Str × D} (c : conB K p = true) : ∃ u v, mg p.1 = some u ∧ RelV v u ∧ ∀ F io, Rel K F io p.2 v := by
  unfold conB at c
  split at c
  · rename_i u hu
    obtain ⟨v, h1, h2⟩ := conV_ok p.2 u c
    exact ⟨u, v, PySem.W.mg_of X G hu, h1, h2⟩
  · cases c
/-! ### the Hook -/
/-- the facts that are wanted of K -/
def faOf (G : GE) : List He.Fa := G.fnA.map (fun p => .glo p.1) ++ G.clA.map (fun p => .glo p.1) ++ G.clA.map (fun p => .mkr p.1) ++ G.meA.map (fun p => .cls p.1.2) ++ G.meA.map (fun p => .meth p.1.2 p.1.1) ++ G.okA.map (fun p => .cls p.1) ++ G.okA.map (fun p => .noat p.1 p.2) ++ G.frA.map (fun x => .free x)
/-- the part of the heap that is looked at -/
def frP (g : Addr → Option Obj) (n : Nat) : PySem.W.Frag := He.frG g (cStatics :: He.asD g n)
def obsP (n : Nat) (fa : List He.Fa) (fn : List He.DefD) (ex : PySem.W.Frag → Bool) (g : Addr → Option Obj) : He.AlD × Bool := (He.obsD fa fn (frP g n), ex (frP g n))
def hookP (n : Nat) (fa : List He.Fa) (fn : List He.DefD) (ex : PySem.W.Frag → Bool) : PySem.W.Hook where
  α := He.AlD × Bool
  obs := fun s => obsP n fa fn ex s.heap.get?
  val := fun _ => (He.valD fn, true)
  says := fun _ h => ∃ K : PySem.W.Frag, K.In h ∧ He.SaysD fa fn K ∧ ex K = true
  of := fun _ _ e => ⟨_, He.frG_in, congrArg (fun z : He.AlD × Bool => z.1) e, congrArg (fun z : He.AlD × Bool => z.2) e⟩
  keeps := fun _ _ _ ⟨K, hK, c⟩ k => ⟨K, PySem.W.Frag.In.keeps hK k, c⟩
theorem obsP_eq {n : Nat} {fa : List He.Fa} {fn : List He.DefD} {ex : PySem.W.Frag → Bool} {g : Addr → Option Obj} {s : Shared} (h : ∀ a, g a = s.heap.get? a) : obsP n fa fn ex g = (hookP n fa fn ex).obs s := by
  have e : g = s.heap.get? := funext h
  rw [e] <;> rfl
/-- what the tables must agree on -/
def tabOk (G : GE) (T : Tab) : Bool := T.all FDef.good &&
  G.fnA.all (fun p => match T.fn p.1 with | some d => decide (d.ps.length = p.2) && decide (d.at_ = (p.1, none)) | none => false) &&
  G.clA.all (fun p => match T.me p.1 "__init__" with | some d => decide (d.ps.length = p.2.2) && decide (d.at_ = (p.1, some ("__init__" : Str))) | none => false) &&
  G.meA.all (fun p => match T.me p.1.2 p.1.1 with | some d => decide (d.ps.length = p.2) && decide (d.at_ = (p.1.2, some p.1.1)) | none => false)
theorem gm_of {P : Program} {G : GE} {T : Tab} {K : PySem.W.Frag} {h : Heap} {mg : Str → Option Value} (X : K.In h) (N : h.Ns mainGlobals mg) (ht : tabOk G T = true) (c : He.SaysD (faOf G) (T.map FDef.defD) K) (hc : G.con.all (conB K) = true) (hx : xB P G K = true) : GM G T P K mg := by
  unfold tabOk at ht
  simp only [Bool.and_eq_true, List.all_eq_true] at ht hc
  obtain ⟨⟨⟨t1, t2⟩, t3⟩, t4⟩ := ht
  have def_ : ∀ {d : FDef}, d ∈ T → ∃ fd, FunD K d.name d.qual d.params d.body d.scope [] [] (He.fAd K d.at_) fd := fun {d} hd => c.defs (d := d.defD) (List.mem_map_of_mem hd)
  have fa : ∀ {f : He.Fa}, f ∈ faOf G → f.ok K = true := fun hf => c.facts hf
  refine ⟨fun x d hl => conB_ok X N (hc _ (mem_of_lk hl)), fun x k hl => ?_, fun x b k hl => ?_, fun nm cl k hl => ?_, fun cl f hl => ?_, fun x hl => ?_, xB_exs X N hx, xB_xa hx, xB_isi X N hx⟩
  · have q := t2 _ (mem_of_lk hl)
    cases r : T.fn x with
    | none => rw [r] at q; cases q
    | some d =>
      rw [r] at q
      simp only [Bool.and_eq_true, decide_eq_true_eq] at q
      have hd : d ∈ T := List.mem_of_find?_eq_some r
      obtain ⟨fd, F⟩ := def_ hd
      rw [q.2] at F
      obtain ⟨g1, g2⟩ := FDef.of_good (t1 d hd)
      refine ⟨He.ga K x, d, fd, He.glo_ok X N (fa (f := .glo x) ?_), rfl, F, g1, g2 F, q.1⟩
      unfold faOf
      simp only [List.mem_append, List.mem_map]
      exact .inl (.inl (.inl (.inl (.inl (.inl (.inl ⟨_, mem_of_lk hl, rfl⟩))))))
  · have q := t3 _ (mem_of_lk hl)
    cases r : T.me x "__init__" with
    | none => rw [r] at q; cases q
    | some d =>
      rw [r] at q
      simp only [Bool.and_eq_true, decide_eq_true_eq] at q
      have hd : d ∈ T := List.mem_of_find?_eq_some r
      obtain ⟨fd, F⟩ := def_ hd
      rw [q.2] at F
      obtain ⟨g1, g2⟩ := FDef.of_good (t1 d hd)
      refine ⟨He.glo_ok X N (fa (f := .glo x) ?_), He.ma K (He.ga K x) "__init__", d, fd, He.mkr_ok (fa (f := .mkr x) ?_), rfl, F, g1, g2 F, q.1⟩
      · unfold faOf
        simp only [List.mem_append, List.mem_map]
        exact .inl (.inl (.inl (.inl (.inl (.inl (.inr ⟨_, mem_of_lk hl, rfl⟩))))))
      · unfold faOf
        simp only [List.mem_append, List.mem_map]
        exact .inl (.inl (.inl (.inl (.inl (.inr ⟨_, mem_of_lk hl, rfl⟩)))))
  · have q := t4 _ (mem_of_lk hl)
    cases r : T.me cl nm with
    | none => rw [r] at q; cases q
    | some d =>
      rw [r] at q
      simp only [Bool.and_eq_true, decide_eq_true_eq] at q
      have hd : d ∈ T := List.mem_of_find?_eq_some r
      obtain ⟨fd, F⟩ := def_ hd
      rw [q.2] at F
      obtain ⟨g1, g2⟩ := FDef.of_good (t1 d hd)
      refine ⟨He.ma K (He.ga K cl) nm, d, fd, He.cls_ok (fa (f := .cls cl) ?_), He.meth_ok (fa (f := .meth cl nm) ?_), rfl, F, g1, g2 F, q.1⟩
      · unfold faOf
        simp only [List.mem_append, List.mem_map]
        exact .inl (.inl (.inl (.inl (.inr ⟨_, mem_of_lk hl, rfl⟩))))
      · unfold faOf
        simp only [List.mem_append, List.mem_map]
        exact .inl (.inl (.inl (.inr ⟨_, mem_of_lk hl, rfl⟩)))
  · have hm := List.contains_iff_mem.mp hl
    refine ⟨He.cls_ok (fa (f := .cls cl) ?_), He.noat_ok (fa (f := .noat cl f) ?_)⟩
    · unfold faOf
      simp only [List.mem_append, List.mem_map]
      exact .inl (.inl (.inr ⟨_, hm, rfl⟩))
    · unfold faOf
      simp only [List.mem_append, List.mem_map]
      exact .inl (.inr ⟨_, hm, rfl⟩)
  · have hm := List.contains_iff_mem.mp hl
    refine He.free_ok X N (fa (f := .free x) ?_)
    unfold faOf
    simp only [List.mem_append, List.mem_map]
    exact .inr ⟨_, hm, rfl⟩
/-- the law's promise -/
theorem law_sp {K : PySem.W.Frag} {φ : List D → Mem → R RV} {H : Hp} {a : Addr} {ns : List Int} (h : ∃ M, φ [.scr ns] [] = .ok (.val (.bl true)) M) (hs : SqL K H a (ns.map V.int)) : spF K φ 1 [.ref a] H (fun v _ => v = .bl true) fun _ _ _ => False := by
  obtain ⟨M, h⟩ := h
  refine ⟨rfl, H, [], [], [.scr ns], ⟨Same.refl _, rfl, List.nodup_nil, fun i o e => by simp at e⟩, ⟨.ref a, [], rfl, ⟨a, rfl, hs⟩, rfl⟩, ?_⟩
  rw [h]
  exact fun F' io' H' v _ _ r => r
theorem cx_none {P : Program} {w : World} (H : Hp) (s : Shared) (e : Value) (s' : Shared) : L2.CX P w [] H s (fun _ _ _ => False) e s' → False := by
  rintro ⟨_, _, _, _, _, _, _, _, _, _, _, _, z⟩
  exact z
/-- whatever the world -/
def CXA (P : Program) : CXT := fun o H s E e s' => ∃ w, L2.CX P w o H s E e s'
theorem fn_any {P : Program} {w : World} {K : PySem.W.Frag} {mg : Str → Option Value} {base : Heap} {k : Nat} {f : Addr} {fd : FuncData} {ps : List Str} {sp : Sp} (F : FnOkG P w K mg base (L2.CX P w) k f fd ps sp) : FnOkG P w K mg base (CXA P) k f fd ps sp :=
  ⟨F.len, fun A outer s H args us vs Q E hg hr e b r h => codeAny_mono (F.run A outer s H args us vs Q E hg hr e b r h) fun r s' q => by
    cases r with
    | ok fl => cases fl <;> exact q
    | error e => exact ⟨w, q⟩⟩
theorem cxa_none {P : Program} (H : Hp) (s : Shared) (e : Value) (s' : Shared) : CXA P [] H s (fun _ _ _ => False) e s' → False := fun ⟨_, h⟩ => cx_none H s e s' h
/-- the law's def: its binding, its promise -/
theorem law_facts {P : Program} {G : GE} {T : Tab} {n : Nat} {d : FDef} {x : Str} (ht : tabOk G T = true) (hk : G.fnA.lookup ("law" : Str) = some 1) (hd : T.fn ("law" : Str) = some d) (hx : d.ps = [x]) (hlaw : ∀ ns : List Int, ns.length ≤ 63 → ∃ M, (mkDy G T (n + 1)).call "law" [.scr ns] [] = .ok (.val (.bl true)) M)
    {w : World} {K : PySem.W.Frag} {h : Heap} {mg : Str → Option Value} {fa : Addr} (X : K.In h) (N : h.Ns mainGlobals mg) (hfa : mg ("law" : Str) = some (.ref fa)) (c : He.SaysD (faOf G) (T.map FDef.defD) K) (c2 : G.con.all (conB K) = true) (c3 : xB P G K = true) :
    ∃ (fd : FuncData) (sp : Sp), (∀ (s : Shared) (u : Value), BindsTo s fd ⟨[u], []⟩ [(x, u)]) ∧
      (∀ (H : Hp) (a : Addr) (ns : List Int), ns.length ≤ 63 → L2.SqL K H a (ns.map V.int) → sp [.ref a] H (fun v _ => v = .bl true) fun _ _ _ => False) ∧
      ∀ base : Heap, FnOkG P w K mg base (CXA P) (2 * n + 2) fa fd [x] sp := by
  have m : GM G T P K mg := gm_of X N ht c c2 c3
  obtain ⟨f, d', fd, h1, h2, h3, h4, h5, h6⟩ := m.fns "law" 1 hk
  rw [hd] at h2
  cases h2
  have ef : fa = f := by
    rw [hfa] at h1
    cases h1
    rfl
  subst ef
  have hg : d.good = true := by
    unfold tabOk at ht
    simp only [Bool.and_eq_true, List.all_eq_true] at ht
    exact ht.1.1.1 d (List.mem_of_find?_eq_some hd)
  have e : (mkDy G T (n + 1)).call "law" = runF G (mkDy G T n) d := by
    funext ds M
    show (match T.fn ("law" : Str) with
      | some d => runF G (mkDy G T n) d ds M
      | none => .stuck) = _
    rw [hd]
  refine ⟨fd, spF K (runF G (mkDy G T n) d) 1, fun s u => ?_, fun H a ns hl hs => law_sp (by rw [← e]; exact hlaw ns hl) hs, fun base => ?_⟩
  · unfold FDef.good at hg
    simp only [Bool.and_eq_true, List.isEmpty_iff, Option.isNone_iff_eq_none, decide_eq_true_eq, List.all_eq_true, Bool.not_eq_true'] at hg
    obtain ⟨⟨⟨⟨⟨⟨⟨⟨⟨⟨⟨g1, g2⟩, g3⟩, g4⟩, g5⟩, g6⟩, g7⟩, g8⟩, g9⟩, g10⟩, g11⟩, g12⟩ := hg
    rw [hx] at g5
    exact FunD.bindsA (ps := [x]) h3 (fun kV doc pm an cdv ct us hl => bind_plain g1 g2 g3 g4 rfl g5 (by simp) hl) s [u] rfl
  · have z := fn_of_def (P := P) (w := w) (base := base) (knot m n) h3 h4
    rw [hx] at z
    exact fn_any z
end Pc

set_option Elab.async false
set_option linter.all false
set_option maxRecDepth 100000
set_option maxHeartbeats 1000000
set_option autoImplicit false
/-! PcEv: how the readings compute -/
namespace Pc
open PySem PySem.Spec PyProof.Rows L2

section
variable {α β : Type} {a : α} {M : Mem} {e : Sl}
theorem bind_ok (f : α → Mem → R β) : (R.ok a M).bind f = f a M := rfl
theorem bind_exc (c : Str) (ns : List Str) (ds : List D) (f : α → Mem → R β) : (R.exc c ns ds M : R α).bind f = .exc c ns ds M := rfl
theorem map_ok (f : α → β) : (R.ok a M).map f = .ok (f a) M := rfl
theorem map_exc (c : Str) (ns : List Str) (ds : List D) (f : α → β) : (R.exc c ns ds M : R α).map f = .exc c ns ds M := rfl
theorem toS_ok (f : α → Mem → RS) : (R.ok a M).toS e f = f a M := rfl
theorem toS_exc (c : Str) (ns : List Str) (ds : List D) (f : α → Mem → RS) : (R.exc c ns ds M : R α).toS e f = .exc c ns ds e M := rfl
theorem seq_nx (f : MS) : (RS.nx e M).seq f = f e M := rfl
theorem seq_rt (rv : RV) (f : MS) : (RS.rt rv M).seq f = .rt rv M := rfl
theorem seq_bk (f : MS) : (RS.bk e M).seq f = .bk e M := rfl
theorem seq_ct (f : MS) : (RS.ct e M).seq f = .ct e M := rfl
theorem seq_exc (c : Str) (ns : List Str) (ds : List D) (f : MS) : (RS.exc c ns ds e M).seq f = .exc c ns ds e M := rfl
theorem runS_nx : runS (.nx e M) = .ok (.val .non) M := rfl
theorem runS_rt (rv : RV) : runS (.rt rv M) = .ok rv M := rfl
theorem runS_exc (c : Str) (ns : List Str) (ds : List D) : runS (.exc c ns ds e M) = .exc c ns ds M := rfl
theorem noX_ok : noX (R.ok a M) = .ok a M := rfl
theorem d_val (d : D) : RV.d (.val d) = d := rfl
theorem d_own (o : MO) : RV.d (.own o) = o.d := rfl
theorem al_val (mu : Bool) (d : D) : alD mu (.ok (.val d) M) = .ok d M := by cases mu <;> rfl
theorem al_f (o : MO) : alD false (.ok (.own o) M) = .ok o.d M := rfl
theorem al_t (o : MO) : alD true (.ok (.own o) M) = .ok (.ref M.length) (M ++ [o]) := rfl
end
section
variable {M : Mem} {e : Sl} {m m1 m2 m3 : ME} {t t1 t2 : MT} {a b : MS} {ms : MDs} {mu : Bool} {i : Nat}
theorem e_seq : mSeq a b e M = (a e M).seq b := rfl
theorem e_next : mNext e M = .nx e M := rfl
theorem e_bk : mBreak e M = .bk e M := rfl
theorem e_ct : mCont e M = .ct e M := rfl
theorem e_ret : mRet m e M = (m e M).toS e fun rv M1 => .rt rv M1 := rfl
theorem e_retN : mRetN e M = .rt (.val .non) M := rfl
theorem e_ifS : mIfS t a b e M = (t e M).toS e fun c M1 => if c then a e M1 else b e M1 := rfl
theorem e_set : mSet mu i m e M = (mA mu m e M).toS e fun d M1 => .nx (e.set i (some d)) M1 := rfl
theorem e_drop : mDrop m e M = (mD m e M).toS e fun _ M1 => .nx e M1 := rfl
theorem e_A : mA mu m e M = alD mu (m e M) := rfl
theorem e_D : mD m e M = (m e M).map RV.d := rfl
theorem e_val (d : D) : mVal d e M = .ok (.val d) M := rfl
theorem e_var0 (d : D) (r : Sl) : mVar 0 (some d :: r) M = .ok (.val d) M := rfl
theorem e_varS (n : Nat) (x : Option D) (r : Sl) : mVar (n + 1) (x :: r) M = mVar n r M := rfl
theorem e_nil : mNil e M = .ok [] M := rfl
theorem e_cons : mConsA mu m ms e M = (mA mu m e M).bind fun d M1 => (ms e M1).bind fun ds M2 => .ok (d :: ds) M2 := rfl
theorem e_cmp (op : CmpOp) : mCmp op m1 m2 e M = (mD m1 e M).bind fun d1 M1 => (mD m2 e M1).bind fun d2 M2 => cmpS op d1 d2 M2 := rfl
theorem e_bin (op : Operator) : mBin op m1 m2 e M = (mD m1 e M).bind fun d1 M1 => (mD m2 e M1).bind fun d2 M2 => binS op d1 d2 M2 := rfl
theorem e_blt (f : List D → Mem → R RV) : mBlt f ms e M = (ms e M).bind f := rfl
theorem e_call (n : Nat) (φ : List D → Mem → R RV) : mCall n φ ms e M = (ms e M).bind fun ds M1 => if ds.length = n then φ ds M1 else .stuck := rfl
def blK (rv : RV) (M1 : Mem) : R Bool := match rv with
  | .val (.bl b) => .ok b M1
  | _ => .stuck
theorem blK_b (c : Bool) : blK (.val (.bl c)) M = .ok c M := rfl
theorem e_bl : mBl m e M = (m e M).bind blK := rfl
def trK (d : D) (M1 : Mem) : R Bool := match truO d M1 with
  | some b => .ok b M1
  | none => .stuck
theorem trK_b (c : Bool) : trK (.bl c) M = .ok c M := rfl
theorem e_tru : mTru m e M = (mD m e M).bind trK := rfl
theorem e_notT : mNotT t e M = (t e M).map not := rfl
theorem e_andT : mAndT t1 t2 e M = (t1 e M).bind fun c M1 => if c then t2 e M1 else .ok false M1 := rfl
theorem e_orT : mOrT t1 t2 e M = (t1 e M).bind fun c M1 => if c then .ok true M1 else t2 e M1 := rfl
def andK (m2 : ME) (e : Sl) (d : D) (M1 : Mem) : R RV := match truO d M1 with
  | some true => m2 e M1
  | some false => .ok (.val d) M1
  | none => .stuck
theorem andK_b (c : Bool) : andK m2 e (.bl c) M = if c then m2 e M else .ok (.val (.bl false)) M := by cases c <;> rfl
theorem e_and : mAnd m1 m2 e M = (mD m1 e M).bind (andK m2 e) := rfl
def orK (m2 : ME) (e : Sl) (d : D) (M1 : Mem) : R RV := match truO d M1 with
  | some false => m2 e M1
  | some true => .ok (.val d) M1
  | none => .stuck
theorem orK_b (c : Bool) : orK m2 e (.bl c) M = if c then .ok (.val (.bl true)) M else m2 e M := by cases c <;> rfl
theorem e_or : mOr m1 m2 e M = (mD m1 e M).bind (orK m2 e) := rfl
def notK (d : D) (M1 : Mem) : R RV := match truO d M1 with
  | some b => vB (!b) M1
  | none => .stuck
theorem notK_b (c : Bool) : notK (.bl c) M = .ok (.val (.bl !c)) M := rfl
theorem e_not : mNot m e M = (mD m e M).bind notK := rfl
def negK (d : D) (M1 : Mem) : R RV := match d with
  | .int i => vI (-i) M1
  | _ => .stuck
theorem negK_i (i : Int) : negK (.int i) M = .ok (.val (.int (-i))) M := rfl
theorem e_neg : mNeg m e M = (mD m e M).bind negK := rfl
theorem e_if : mIf t m1 m2 e M = (t e M).bind fun c M1 => if c then m1 e M1 else m2 e M1 := rfl
def chK (op' : CmpOp) (m3 : ME) (e : Sl) (d2 : D) (rv : RV) (M3 : Mem) : R RV := match rv with
  | .val (.bl true) => (mD m3 e M3).bind fun d3 M4 => cmpS op' d2 d3 M4
  | .val (.bl false) => vB false M3
  | _ => .stuck
theorem chK_b (op' : CmpOp) (d2 : D) (c : Bool) : chK op' m3 e d2 (.val (.bl c)) M = if c then (mD m3 e M).bind fun d3 M4 => cmpS op' d2 d3 M4 else .ok (.val (.bl false)) M := by cases c <;> rfl
theorem e_chain (op op' : CmpOp) : mChain op op' m1 m2 m3 e M = (mD m1 e M).bind fun d1 M1 => (mD m2 e M1).bind fun d2 M2 => (cmpS op d1 d2 M2).bind (chK op' m3 e d2) := rfl
theorem e_tup : mTup ms e M = (ms e M).bind fun ds M1 => if ds.length ≤ sizeLine then .ok (.val (.tup ds)) M1 else .stuck := rfl
theorem e_lst : mLst ms e M = (ms e M).bind fun ds M1 => if ds.length ≤ sizeLine then .ok (.own (.lst ds)) M1 else .stuck := rfl
theorem e_idx : mIdx m1 m2 e M = (mD m1 e M).bind fun d1 M1 => (mD m2 e M1).bind fun d2 M2 => idxS d1 d2 M2 := rfl
theorem e_attr (ok : Str → Str → Bool) (f : Str) : mAttr ok f m e M = (mD m e M).bind fun d M1 => attrS ok f d M1 := rfl
theorem e_attrX (ok okx : Str → Str → Bool) (f : Str) : mAttrX ok okx f m e M = (mD m e M).bind fun d M1 => attrX ok okx f d M1 := rfl
theorem e_exo (c : Str) (fm : Bool) (fl : Option Str) : mExo c fm fl ms e M = (ms e M).bind (mkExo c fm fl) := rfl
def isiK (t : Kd → Option Bool) (d : D) (M1 : Mem) : R RV := match (knd M1 d).bind t with
  | some b => .ok (.val (.bl b)) M1
  | none => .stuck
theorem e_isi (t : Kd → Option Bool) : mIsi t m e M = (mD m e M).bind (isiK t) := rfl
theorem isiK_exo {t : Kd → Option Bool} {c : Str} {ns : List Str} {ds : List D} {b : Bool} (h : t (8, c) = some b) : isiK t (.exo c ns ds) M = .ok (.val (.bl b)) M := by
  unfold isiK
  show (match (some ((8 : Nat), c)).bind t with
    | some b => R.ok (RV.val (D.bl b)) M
    | none => .stuck) = _
  rw [Option.bind_some, h]
theorem e_slice (lo hi : MPt) : mSlice m lo hi e M = (mD m e M).bind fun d M1 => (lo e M1).bind fun l M2 => (hi e M2).bind fun u M3 => slS d l u M3 := rfl
theorem e_noP : mNoPart e M = .ok none M := rfl
def ptK (d : D) (M1 : Mem) : R (Option Int) := match d with
  | .int i => .ok (some i) M1
  | .non => .ok none M1
  | _ => .stuck
theorem e_lc (mi : MI) (tg : MG) (md : MD) (vs : List Nat) : mLc mi tg t md vs e M = (mi e M).bind fun g M1 => (lcL g.2 tg t md vs e g.1 0 M1 []).bind fun ds M2 => .ok (.own (.lst ds)) M2 := rfl
theorem e_for (mi : MI) (tg : MG) : mFor mi tg a e M = (mi e M).toS e fun g M1 => forL g.2 tg a g.1 0 e M1 := rfl
theorem e_iany : mIAny m e M = (mD m e M).bind anyI := rfl
theorem e_ienu : mIEnu ms e M = (ms e M).bind enuS := rfl
theorem e_irng1 : mIRng1 ms e M = (ms e M).bind rng1S := rfl
theorem e_irng2 : mIRng2 ms e M = (ms e M).bind rng2S := rfl
theorem e_par (is : List Nat) : mPar is ms e M = (ms e M).toS e fun ds M1 => if ds.length = is.length then .nx (putE e (is.zip ds)) M1 else .stuck := rfl
def asK (g : MG) (e : Sl) (d : D) (M1 : Mem) : RS := match g d with
  | some bs => .nx (putE e bs) M1
  | none => .stuck
theorem e_asg (g : MG) : mAsg g m e M = (mD m e M).toS e (asK g e) := rfl
def stK (e : Sl) (o : Option Mem) : RS := match o with
  | some M4 => .nx e M4
  | none => .stuck
theorem e_sub (mi mo me : ME) : mSub mu me mo mi e M = (mA mu me e M).toS e fun v M1 => (mD mo e M1).toS e fun o M2 => (mD mi e M2).toS e fun i M3 => stK e (setS o i v M3) := rfl
theorem e_fld (ok : Str → Str → Bool) (f : Str) (me mo : ME) : mFld mu ok f me mo e M = (mA mu me e M).toS e fun v M1 => (mD mo e M1).toS e fun o M2 => stK e (setF ok f o v M2) := rfl
theorem stK_s (M4 : Mem) : stK e (some M4) = .nx e M4 := rfl
end
theorem gc_same (d : D) (M : Mem) : gcR M.length (.ok (.val d) M) = .ok (.val d) M := by
  unfold gcR
  dsimp only
  rw [List.take_length]
  split
  · split
    · rfl
    · cases d with
      | ref i =>
        dsimp only
        split
        · rename_i o ho
          have := (List.getElem?_eq_some_iff.mp ho).1
          rw [if_neg (by omega)]
        · rfl
      | _ => rfl
  · rfl
theorem gc_own (o : MO) (M : Mem) : ∃ M', gcR M.length (.ok (.own o) M) = .ok (.own o) M' ∧ M' = M := by
  unfold gcR
  dsimp only
  rw [List.take_length]
  split
  · split <;> exact ⟨M, rfl, rfl⟩
  · exact ⟨M, rfl, rfl⟩
theorem gc_own' (o : MO) (M : Mem) : gcR M.length (.ok (.own o) M) = .ok (.own o) M := by
  obtain ⟨M', h, e⟩ := gc_own o M
  rw [h, e]
/-! ### loops whose turns change nothing -/
theorem lc_from {g : GI} {tg : MG} {t : MT} {e : MD} {vs : List Nat} {env : Sl} {M : Mem} (xs : List D) (p : D → Bool) (f : D → D) (hg : ∀ k, g M k = some xs[k]?) (hl : xs.length ≤ sizeLine)
    (hb : ∀ x ∈ xs, ∃ bs, tg x = some bs ∧ (bs.all fun b => vs.contains b.1) = true ∧ t (putE (wipeS env vs) bs) M = .ok (p x) M ∧ (p x = true → e (putE (wipeS env vs) bs) M = .ok (f x) M)) :
    ∀ (n k : Nat) (acc : List D), k + n = xs.length → acc.length ≤ k → lcL g tg t e vs env n k M acc = .ok (acc ++ ((xs.drop k).filter p).map f) M
  | 0, k, acc, hk, ha => by
    unfold lcL
    rw [hg k, List.getElem?_eq_none (by omega), List.drop_eq_nil_of_le (by omega)]
    simp
  | n + 1, k, acc, hk, ha => by
    have hlt : k < xs.length := by omega
    unfold lcL
    rw [hg k, List.getElem?_eq_getElem hlt]
    obtain ⟨bs, h1, h2, h3, h4⟩ := hb xs[k] (List.getElem_mem hlt)
    simp only [h1, h2, h3, noX_ok, bind_ok, if_true]
    rw [List.drop_eq_getElem_cons hlt, List.filter_cons]
    cases hp : p xs[k] with
    | false =>
      simp only [Bool.false_eq_true, if_false]
      exact lc_from xs p f hg hl hb n (k + 1) acc (by omega) (by omega)
    | true =>
      simp only [if_true, h4 hp, noX_ok, bind_ok]
      rw [if_pos (by omega), lc_from xs p f hg hl hb n (k + 1) (acc ++ [f xs[k]]) (by omega) (by rw [List.length_append]; simp; omega)]
      simp
theorem lc_pure {g : GI} {tg : MG} {t : MT} {e : MD} {vs : List Nat} {env : Sl} {M : Mem} (xs : List D) (p : D → Bool) (f : D → D) (hg : ∀ k, g M k = some xs[k]?) (hl : xs.length ≤ sizeLine)
    (hb : ∀ x ∈ xs, ∃ bs, tg x = some bs ∧ (bs.all fun b => vs.contains b.1) = true ∧ t (putE (wipeS env vs) bs) M = .ok (p x) M ∧ (p x = true → e (putE (wipeS env vs) bs) M = .ok (f x) M)) :
    lcL g tg t e vs env xs.length 0 M [] = .ok ((xs.filter p).map f) M := by
  rw [lc_from xs p f hg hl hb xs.length 0 [] (by omega) (Nat.le_refl _)]
  simp
end Pc

set_option Elab.async false
set_option linter.all false
set_option maxRecDepth 100000
set_option maxHeartbeats 1000000
set_option autoImplicit false
/-! PcE2: how the operators compute -/
namespace Pc
open PySem PySem.Spec PyProof.Rows L2
section
variable {M : Mem}
def sOk (x : Str) : Prop := PyData.strOk x = true
theorem sh_str {x : Str} (h : sOk x) : SeqAt.shaped (.str x) = true := by
  unfold SeqAt.shaped
  rw [show PyData.canLay0 (.str x) = PyData.strOk x from by simp only [PyData.canLay0], h]
  simp [PyData.depth]
theorem sh_int (i : Int) : SeqAt.shaped (.int i) = true := by
  unfold SeqAt.shaped
  simp [PyData.canLay0, PyData.depth]
theorem eqO_str {a b : Str} (ha : sOk a) (hb : sOk b) : eqO (.str a) (.str b) M = some (a == b) := by
  show (if SeqAt.shaped (.str a) = true ∧ SeqAt.shaped (.str b) = true then some (PyData.eqv (.str a) (.str b)) else none) = _
  rw [if_pos ⟨sh_str ha, sh_str hb⟩]
  simp only [PyData.eqv]
theorem eqO_int (i j : Int) : eqO (.int i) (.int j) M = some (i == j) := by
  show (if SeqAt.shaped (.int i) = true ∧ SeqAt.shaped (.int j) = true then some (PyData.eqv (.int i) (.int j)) else none) = _
  rw [if_pos ⟨sh_int i, sh_int j⟩]
  simp only [PyData.eqv]
theorem eq_str {a b : Str} (ha : sOk a) (hb : sOk b) : cmpS .Eq (.str a) (.str b) M = .ok (.val (.bl (a == b))) M := by
  show rB (eqO (.str a) (.str b) M) M = _
  rw [eqO_str ha hb]; rfl
theorem ne_str {a b : Str} (ha : sOk a) (hb : sOk b) : cmpS .NotEq (.str a) (.str b) M = .ok (.val (.bl (!(a == b)))) M := by
  show rB ((eqO (.str a) (.str b) M).map not) M = _
  rw [eqO_str ha hb]; rfl
theorem eq_int (i j : Int) : cmpS .Eq (.int i) (.int j) M = .ok (.val (.bl (i == j))) M := by
  show rB (eqO (.int i) (.int j) M) M = _
  rw [eqO_int]; rfl
theorem ne_int (i j : Int) : cmpS .NotEq (.int i) (.int j) M = .ok (.val (.bl (!(i == j)))) M := by
  show rB ((eqO (.int i) (.int j) M).map not) M = _
  rw [eqO_int]; rfl
theorem lt_int (i j : Int) : cmpS .Lt (.int i) (.int j) M = .ok (.val (.bl (decide (i < j)))) M := rfl
theorem le_int (i j : Int) : cmpS .LtE (.int i) (.int j) M = .ok (.val (.bl (decide (i ≤ j)))) M := rfl
theorem gt_int (i j : Int) : cmpS .Gt (.int i) (.int j) M = .ok (.val (.bl (decide (j < i)))) M := rfl
theorem ge_int (i j : Int) : cmpS .GtE (.int i) (.int j) M = .ok (.val (.bl (decide (j ≤ i)))) M := rfl
theorem in_sign (c : Nat) (z : Str) : cmpS .In (.str ⟨#[c]⟩) (.str z) M = .ok (.val (.bl (decide (c ∈ z.cps.toList)))) M := rfl
theorem is_non : cmpS .Is .non .non M = .ok (.val (.bl true)) M := rfl
theorem isNot_non : cmpS .IsNot .non .non M = .ok (.val (.bl false)) M := rfl
theorem is_tup (xs : List D) : cmpS .Is (.tup xs) .non M = .ok (.val (.bl false)) M := rfl
theorem isNot_tup (xs : List D) : cmpS .IsNot (.tup xs) .non M = .ok (.val (.bl true)) M := rfl
theorem is_int (i : Int) : cmpS .Is (.int i) .non M = .ok (.val (.bl false)) M := rfl
theorem isNot_int (i : Int) : cmpS .IsNot (.int i) .non M = .ok (.val (.bl true)) M := rfl
theorem len_str {z : Str} (h : z.length ≤ sizeLine) : lenS [.str z] M = .ok (.val (.int z.length)) M := by
  show (if z.length ≤ sizeLine then vI z.length M else .stuck) = _
  rw [if_pos h]; rfl
theorem len_tup (xs : List D) : lenS [.tup xs] M = .ok (.val (.int xs.length)) M := rfl
theorem len_ctup (xs : List D) : lenS [.ctup xs] M = .ok (.val (.int xs.length)) M := rfl
theorem len_lst (xs : List D) : lenS [.lst xs] M = .ok (.val (.int xs.length)) M := rfl
theorem add_int (i j : Int) : binS .Add (.int i) (.int j) M = .ok (.val (.int (i + j))) M := rfl
theorem sub_int (i j : Int) : binS .Sub (.int i) (.int j) M = .ok (.val (.int (i - j))) M := rfl
theorem mul_int {i j : Int} (h : MulOk i j) : binS .Mult (.int i) (.int j) M = .ok (.val (.int (i * j))) M := by
  show (if MulOk i j then vI (i * j) M else .stuck) = _
  rw [if_pos h]; rfl
theorem mod_int {i j : Int} (h : 0 < j) : binS .Mod (.int i) (.int j) M = .ok (.val (.int (i % j))) M := by
  show (if 0 < j then vI (i % j) M else .stuck) = _
  rw [if_pos h]; rfl
theorem div_int {i j : Int} (h : 0 < j ∧ j.natAbs.log2 < 9000) : binS .FloorDiv (.int i) (.int j) M = .ok (.val (.int (i / j))) M := by
  show (if 0 < j ∧ j.natAbs.log2 < 9000 then vI (i / j) M else .stuck) = _
  rw [if_pos h]; rfl
theorem add_str {a b : Str} (h : a.length + b.length ≤ sizeLine) : binS .Add (.str a) (.str b) M = .ok (.val (.str (a ++ b))) M := by
  show (if a.length + b.length ≤ sizeLine then R.ok (RV.val (D.str (a ++ b))) M else .stuck) = _
  rw [if_pos h]
theorem int_int (i : Int) : intS [.int i] M = .ok (.val (.int i)) M := rfl
theorem abs_int (i : Int) : absS [.int i] M = .ok (.val (.int (if i < 0 then -i else i))) M := rfl
theorem str_int {i : Int} (h : i.natAbs.log2 < 1920) : strS [.int i] M = .ok (.val (.str (toString i))) M := by
  show (if i.natAbs.log2 < 1920 then R.ok (RV.val (D.str (toString i))) M else .stuck) = _
  rw [if_pos h]
theorem tuple_lst (xs : List D) : tupleS [.lst xs] M = .ok (.val (.tup xs)) M := rfl
theorem tuple_tup (xs : List D) : tupleS [.tup xs] M = .ok (.val (.tup xs)) M := rfl
theorem list_lst (xs : List D) : listS [.lst xs] M = .ok (.own (.lst xs)) M := rfl
theorem list_tup (xs : List D) : listS [.tup xs] M = .ok (.own (.lst xs)) M := rfl
theorem bls_map (bs : List Bool) : blsOf (bs.map D.bl) = some bs := by
  induction bs with
  | nil => rfl
  | cons b bs ih => rw [List.map_cons, blsOf, ih]; rfl
theorem ints_map (bs : List Int) : intsOf (bs.map D.int) = some bs := by
  induction bs with
  | nil => rfl
  | cons b bs ih => rw [List.map_cons, intsOf, ih]; rfl
theorem strs_map (bs : List Str) : strsOf (bs.map D.str) = some bs := by
  induction bs with
  | nil => rfl
  | cons b bs ih => rw [List.map_cons, strsOf, ih]; rfl
theorem all_bls (bs : List Bool) : allS [.lst (bs.map D.bl)] M = .ok (.val (.bl (bs.all id))) M := by
  show (match (seqL M (.lst (bs.map D.bl))).bind blsOf with
    | some bs => vB (bs.all id) M
    | _ => .stuck) = _
  rw [show (seqL M (.lst (bs.map D.bl))).bind blsOf = some bs from bls_map bs]
  rfl
theorem o_lst (xs : List D) : MO.d (.lst xs) = .lst xs := rfl
theorem e_part {m : ME} {e : Sl} {i : Int} {M1 : Mem} (h : mD m e M = .ok (.int i) M1) : mPart m e M = .ok (some i) M1 := by
  unfold mPart
  rw [h]
  rfl
theorem ix_tup0 {a : D} {r : List D} : idxS (.tup (a :: r)) (.int 0) M = .ok (.val a) M := by
  have h : atI (a :: r) (0 : Int) = some a := by
    unfold atI ixN
    rw [if_pos (by decide), if_pos (by simp only [List.length_cons]; omega)]
    rfl
  show oV (atI (a :: r) 0) M = _
  rw [h]
  rfl
theorem ix_tup1 {a b : D} {r : List D} : idxS (.tup (a :: b :: r)) (.int 1) M = .ok (.val b) M := by
  have h : atI (a :: b :: r) (1 : Int) = some b := by
    unfold atI ixN
    rw [if_pos (by decide), if_pos (by simp only [List.length_cons]; omega)]
    rfl
  show oV (atI (a :: b :: r) 1) M = _
  rw [h]
  rfl
theorem ix_tup2 {a b c : D} {r : List D} : idxS (.tup (a :: b :: c :: r)) (.int 2) M = .ok (.val c) M := by
  have h : atI (a :: b :: c :: r) (2 : Int) = some c := by
    unfold atI ixN
    rw [if_pos (by decide), if_pos (by simp only [List.length_cons]; omega)]
    rfl
  show oV (atI (a :: b :: c :: r) 2) M = _
  rw [h]
  rfl
theorem ix_tup3 {a b c d : D} {r : List D} : idxS (.tup (a :: b :: c :: d :: r)) (.int 3) M = .ok (.val d) M := by
  have h : atI (a :: b :: c :: d :: r) (3 : Int) = some d := by
    unfold atI ixN
    rw [if_pos (by decide), if_pos (by simp only [List.length_cons]; omega)]
    rfl
  show oV (atI (a :: b :: c :: d :: r) 3) M = _
  rw [h]
  rfl
theorem ix_tup4 {a b c d e : D} {r : List D} : idxS (.tup (a :: b :: c :: d :: e :: r)) (.int 4) M = .ok (.val e) M := by
  have h : atI (a :: b :: c :: d :: e :: r) (4 : Int) = some e := by
    unfold atI ixN
    rw [if_pos (by decide), if_pos (by simp only [List.length_cons]; omega)]
    rfl
  show oV (atI (a :: b :: c :: d :: e :: r) 4) M = _
  rw [h]
  rfl
theorem ix_tup5 {a b c d e f : D} {r : List D} : idxS (.tup (a :: b :: c :: d :: e :: f :: r)) (.int 5) M = .ok (.val f) M := by
  have h : atI (a :: b :: c :: d :: e :: f :: r) (5 : Int) = some f := by
    unfold atI ixN
    rw [if_pos (by decide), if_pos (by simp only [List.length_cons]; omega)]
    rfl
  show oV (atI (a :: b :: c :: d :: e :: f :: r) 5) M = _
  rw [h]
  rfl
theorem ix_lst0 {a : D} {r : List D} : idxS (.lst (a :: r)) (.int 0) M = .ok (.val a) M := by
  have h : atI (a :: r) (0 : Int) = some a := by
    unfold atI ixN
    rw [if_pos (by decide), if_pos (by simp only [List.length_cons]; omega)]
    rfl
  show oV (atI (a :: r) 0) M = _
  rw [h]
  rfl
theorem ix_lst1 {a b : D} {r : List D} : idxS (.lst (a :: b :: r)) (.int 1) M = .ok (.val b) M := by
  have h : atI (a :: b :: r) (1 : Int) = some b := by
    unfold atI ixN
    rw [if_pos (by decide), if_pos (by simp only [List.length_cons]; omega)]
    rfl
  show oV (atI (a :: b :: r) 1) M = _
  rw [h]
  rfl
theorem ix_lst2 {a b c : D} {r : List D} : idxS (.lst (a :: b :: c :: r)) (.int 2) M = .ok (.val c) M := by
  have h : atI (a :: b :: c :: r) (2 : Int) = some c := by
    unfold atI ixN
    rw [if_pos (by decide), if_pos (by simp only [List.length_cons]; omega)]
    rfl
  show oV (atI (a :: b :: c :: r) 2) M = _
  rw [h]
  rfl
theorem ix_lst3 {a b c d : D} {r : List D} : idxS (.lst (a :: b :: c :: d :: r)) (.int 3) M = .ok (.val d) M := by
  have h : atI (a :: b :: c :: d :: r) (3 : Int) = some d := by
    unfold atI ixN
    rw [if_pos (by decide), if_pos (by simp only [List.length_cons]; omega)]
    rfl
  show oV (atI (a :: b :: c :: d :: r) 3) M = _
  rw [h]
  rfl
theorem ix_lst4 {a b c d e : D} {r : List D} : idxS (.lst (a :: b :: c :: d :: e :: r)) (.int 4) M = .ok (.val e) M := by
  have h : atI (a :: b :: c :: d :: e :: r) (4 : Int) = some e := by
    unfold atI ixN
    rw [if_pos (by decide), if_pos (by simp only [List.length_cons]; omega)]
    rfl
  show oV (atI (a :: b :: c :: d :: e :: r) 4) M = _
  rw [h]
  rfl
theorem ix_lst5 {a b c d e f : D} {r : List D} : idxS (.lst (a :: b :: c :: d :: e :: f :: r)) (.int 5) M = .ok (.val f) M := by
  have h : atI (a :: b :: c :: d :: e :: f :: r) (5 : Int) = some f := by
    unfold atI ixN
    rw [if_pos (by decide), if_pos (by simp only [List.length_cons]; omega)]
    rfl
  show oV (atI (a :: b :: c :: d :: e :: f :: r) 5) M = _
  rw [h]
  rfl
theorem ix_ctup0 {a : D} {r : List D} : idxS (.ctup (a :: r)) (.int 0) M = .ok (.val a) M := by
  have h : atI (a :: r) (0 : Int) = some a := by
    unfold atI ixN
    rw [if_pos (by decide), if_pos (by simp only [List.length_cons]; omega)]
    rfl
  show oV (atI (a :: r) 0) M = _
  rw [h]
  rfl
theorem ix_ctup1 {a b : D} {r : List D} : idxS (.ctup (a :: b :: r)) (.int 1) M = .ok (.val b) M := by
  have h : atI (a :: b :: r) (1 : Int) = some b := by
    unfold atI ixN
    rw [if_pos (by decide), if_pos (by simp only [List.length_cons]; omega)]
    rfl
  show oV (atI (a :: b :: r) 1) M = _
  rw [h]
  rfl
theorem ix_ctup2 {a b c : D} {r : List D} : idxS (.ctup (a :: b :: c :: r)) (.int 2) M = .ok (.val c) M := by
  have h : atI (a :: b :: c :: r) (2 : Int) = some c := by
    unfold atI ixN
    rw [if_pos (by decide), if_pos (by simp only [List.length_cons]; omega)]
    rfl
  show oV (atI (a :: b :: c :: r) 2) M = _
  rw [h]
  rfl
theorem ix_ctup3 {a b c d : D} {r : List D} : idxS (.ctup (a :: b :: c :: d :: r)) (.int 3) M = .ok (.val d) M := by
  have h : atI (a :: b :: c :: d :: r) (3 : Int) = some d := by
    unfold atI ixN
    rw [if_pos (by decide), if_pos (by simp only [List.length_cons]; omega)]
    rfl
  show oV (atI (a :: b :: c :: d :: r) 3) M = _
  rw [h]
  rfl
theorem ix_ctup4 {a b c d e : D} {r : List D} : idxS (.ctup (a :: b :: c :: d :: e :: r)) (.int 4) M = .ok (.val e) M := by
  have h : atI (a :: b :: c :: d :: e :: r) (4 : Int) = some e := by
    unfold atI ixN
    rw [if_pos (by decide), if_pos (by simp only [List.length_cons]; omega)]
    rfl
  show oV (atI (a :: b :: c :: d :: e :: r) 4) M = _
  rw [h]
  rfl
theorem ix_ctup5 {a b c d e f : D} {r : List D} : idxS (.ctup (a :: b :: c :: d :: e :: f :: r)) (.int 5) M = .ok (.val f) M := by
  have h : atI (a :: b :: c :: d :: e :: f :: r) (5 : Int) = some f := by
    unfold atI ixN
    rw [if_pos (by decide), if_pos (by simp only [List.length_cons]; omega)]
    rfl
  show oV (atI (a :: b :: c :: d :: e :: f :: r) 5) M = _
  rw [h]
  rfl
theorem any_str (x : Str) : anyI (.str x) M = .ok (x.cps.size, gStr x) M := rfl
theorem any_tup (xs : List D) : anyI (.tup xs) M = .ok (xs.length, gSeq (.tup xs)) M := rfl
theorem any_lst (xs : List D) : anyI (.lst xs) M = .ok (xs.length, gSeq (.lst xs)) M := rfl
theorem enu_tup (xs : List D) : enuS [.tup xs] M = .ok (xs.length, gEnu (.tup xs)) M := rfl
theorem enu_lst (xs : List D) : enuS [.lst xs] M = .ok (xs.length, gEnu (.lst xs)) M := rfl
theorem g_tup (xs : List D) (k : Nat) : gSeq (.tup xs) M k = some xs[k]? := rfl
theorem g_lst (xs : List D) (k : Nat) : gSeq (.lst xs) M k = some xs[k]? := rfl
/-- the signs of a text -/
def sgns (x : Str) : List D := x.cps.toList.map fun c => .str ⟨#[c]⟩
theorem g_str (x : Str) (k : Nat) : gStr x M k = some (sgns x)[k]? := by
  unfold gStr sgns
  rw [List.getElem?_map, ← Array.getElem?_toList]
theorem sgns_len (x : Str) : (sgns x).length = x.cps.size := by
  unfold sgns
  rw [List.length_map, Array.length_toList]
/-- the items with their places -/
def enus (xs : List D) : List D := xs.zipIdx.map fun p => .tup [.int (p.2 : Nat), p.1]
theorem g_etup (xs : List D) (k : Nat) : gEnu (.tup xs) M k = some (enus xs)[k]? := by
  show some (xs[k]?.map fun x => D.tup [.int (k : Nat), x]) = _
  unfold enus
  rw [List.getElem?_map, List.getElem?_zipIdx]
  cases xs[k]? <;> simp
theorem g_elst (xs : List D) (k : Nat) : gEnu (.lst xs) M k = some (enus xs)[k]? := g_etup (M := M) xs k
theorem enus_len (xs : List D) : (enus xs).length = xs.length := by
  unfold enus
  rw [List.length_map, List.length_zipIdx]
end
end Pc

set_option Elab.async false
set_option linter.all false
set_option maxRecDepth 100000
set_option maxHeartbeats 1000000
set_option autoImplicit false
/-! PcW: texts of numbers, names -/
namespace Pc
open PySem PySem.Spec PyProof.Rows L2 TL

/-- a number as a text -/
def numS (i : Int) : Str := Str.ofString (toString i)
theorem tl_numS (n : Nat) : tl (numS (n : Int)) = numL n := tl_num n
theorem tl_ofString (s : String) : tl (Str.ofString s) = s.toList.map Char.toNat := by
  rw [Str.ofString_eq_toList]
theorem tl_numS_neg (n : Nat) (h : 0 < n) : tl (numS (-(n : Int))) = 45 :: numL n := by
  unfold numS
  rw [toString_neg (by omega)]
  have e : (0 : Int) - (-(n : Int)) = (n : Int) := by omega
  rw [e, tl_ofString, String.toList_append, List.map_append]
  have := tl_num n
  rw [tl_ofString] at this
  rw [this]
  rfl
theorem numL_head : ∀ n : Nat, 0 < n → ∃ c r, numL n = c :: r ∧ 49 ≤ c ∧ c ≤ 57 := by
  intro n
  induction n using Nat.strongRecOn with
  | _ n ih =>
    intro hn
    by_cases h : n < 10
    · rw [numL_lt h]
      exact ⟨48 + n, [], rfl, by omega, by omega⟩
    · rw [numL_step (by omega)]
      obtain ⟨c, r, e, h1, h2⟩ := ih (n / 10) (by omega) (by omega)
      rw [e]
      exact ⟨c, r ++ [48 + n % 10], rfl, h1, h2⟩
theorem sOk_of {x : Str} (h : ∀ c ∈ tl x, c < 128) : sOk x := by
  unfold sOk PyData.strOk
  rw [Array.all_eq_true]
  intro i hi
  have : x.cps[i] ∈ tl x := by
    show x.cps[i] ∈ x.cps.toList
    exact Array.getElem_mem_toList hi
  have := h _ this
  simp
  omega
theorem numL_lt128 (n : Nat) : ∀ c ∈ numL n, c < 128 := fun c hc => by
  have := numL_digits n c hc
  omega
theorem sOk_lit (x : String) : sOk (Str.ofString x) := by
  unfold sOk PyData.strOk
  rw [Array.all_eq_true]
  intro i hi
  have h : (Str.ofString x).cps[i] ∈ tl (Str.ofString x) := by
    show (Str.ofString x).cps[i] ∈ (Str.ofString x).cps.toList
    exact Array.getElem_mem_toList hi
  rw [tl_ofString] at h
  obtain ⟨c, _, e⟩ := List.mem_map.mp h
  rw [← e]
  simp only [decide_eq_true_eq]
  have := c.valid
  have h2 : c.toNat = c.val.toNat := rfl
  rcases this with h | ⟨_, h⟩
  · rw [h2]
    have : c.val.toNat < 0xd800 := h
    omega
  · rw [h2]
    exact h
theorem sOk_numS (i : Int) : sOk (numS i) := sOk_lit _
theorem str_ext {x y : Str} (h : tl x = tl y) : x = y := by
  obtain ⟨⟨a⟩⟩ := x
  obtain ⟨⟨b⟩⟩ := y
  have : a = b := h
  rw [this]
theorem beq_tl {x y : Str} : (x == y) = decide (tl x = tl y) := by
  by_cases h : x = y
  · subst h; simp
  · rw [decide_eq_false fun z => h (str_ext z)]
    exact beq_false_of_ne h
/-- all signs of a text are among z's -/
def allIn (z x : Str) : Bool := (tl x).all fun c => decide (c ∈ tl z)
theorem sg_all {w z : Str} {M : Mem} {d : D} {r : Sl} (hl : w.length ≤ sizeLine) :
    lcL (gStr w) (gN 1) mYes (mA false (mCmp .In (mVar 1) (mVal (.str z)))) [1] (some d :: none :: r) w.cps.size 0 M [] = .ok (((tl w).map fun c => decide (c ∈ tl z)).map D.bl) M := by
  have e : w.cps.size = (sgns w).length := (sgns_len w).symm
  rw [e, lc_pure (sgns w) (fun _ => true) (fun x => match x with | .str s => (match tl s with | [c] => .bl (decide (c ∈ tl z)) | _ => .non) | _ => .non) (g_str w) (by rw [sgns_len]; exact hl)]
  · congr 1
    unfold sgns
    rw [List.filter_eq_self.mpr (fun _ _ => rfl), List.map_map, List.map_map]
    rfl
  · intro x hx
    unfold sgns at hx
    obtain ⟨c, hc, rfl⟩ := List.mem_map.mp hx
    exact ⟨[(1, .str ⟨#[c]⟩)], rfl, rfl, rfl, fun _ => rfl⟩
theorem all_id {l : List Nat} {p : Nat → Bool} : ((l.map p).all id) = l.all p := by rw [List.all_map]; rfl
theorem ix_str0 {w : Str} {c : Nat} {r : List Nat} {M : Mem} (hl : w.length ≤ sizeLine) (h : tl w = c :: r) : idxS (.str w) (.int 0) M = .ok (.val (.str ⟨#[c]⟩)) M := by
  show (if w.length ≤ sizeLine then oV ((atI w.cps.toList 0).map fun c => .str ⟨#[c]⟩) M else .stuck) = _
  rw [if_pos hl]
  have : w.cps.toList = c :: r := h
  rw [this]
  have h2 : atI (c :: r) (0 : Int) = some c := by
    unfold atI ixN
    rw [if_pos (by decide), if_pos (by simp only [List.length_cons]; omega)]
    rfl
  rw [h2]
  rfl
end Pc

set_option Elab.async false
set_option linter.all false
set_option maxRecDepth 100000
set_option maxHeartbeats 1000000
set_option autoImplicit false
/-! PcE3: methods, slices, membership -/
namespace Pc
open PySem PySem.Spec PyProof.Rows L2 TL
section
variable {M : Mem} {e : Sl} {m : ME} {ms : MDs}
def ptK2 (d : D) (M1 : Mem) : R (Option Int) := match d with
  | .int i => .ok (some i) M1
  | _ => .stuck
theorem ptK2_i (i : Int) : ptK2 (.int i) M = .ok (some i) M := rfl
theorem e_partE : mPart m e M = (mD m e M).bind ptK2 := rfl
def starK (ms : MDs) (e : Sl) (d : D) (M1 : Mem) : R (List D) := match seqA M1 d with
  | some xs => (ms e M1).bind fun ds M2 => .ok (xs ++ ds) M2
  | none => .stuck
theorem starK_lst (xs : List D) : starK ms e (.lst xs) M = (ms e M).bind fun ds M2 => .ok (xs ++ ds) M2 := rfl
theorem starK_tup (xs : List D) : starK ms e (.tup xs) M = (ms e M).bind fun ds M2 => .ok (xs ++ ds) M2 := rfl
theorem e_star : mStar m ms e M = (mD m e M).bind (starK ms e) := rfl
def meK (alts : Alts) (own : OwnM) (name : Str) (ms : MDs) (env : Sl) (d : D) (M1 : Mem) : R RV :=
  match tyD M1 d with
  | some T => (match alts.lookup T with
    | some f => (ms env M1).bind fun ds M2 => f d ds M2
    | none => .stuck)
  | none => match insOf M1 d with
    | some (c, ns, _) => (match own c with
      | some (n, φ) => if name ∈ ns then .stuck else (ms env M1).bind fun ds M2 => if (d :: ds).length = n then φ (d :: ds) M2 else .stuck
      | none => .stuck)
    | none => .stuck
theorem e_meth (alts : Alts) (own : OwnM) (name : Str) : mMeth alts own name m ms e M = (mD m e M).bind (meK alts own name ms e) := rfl
theorem ma_join : methAlts "join" = [("str", joinS)] := by kernel_rfl
theorem ma_split : methAlts "split" = [("str", splitS)] := by kernel_rfl
theorem ma_append : methAlts "append" = [("list", appendS)] := by kernel_rfl
theorem ma_pop : methAlts "pop" = [("list", popS)] := by kernel_rfl
theorem ma_index : methAlts "index" = [("list", indexS)] := by kernel_rfl
theorem meK_str (f : D → List D → Mem → R RV) (own : OwnM) (nm : Str) (z : Str) : meK [("str", f)] own nm ms e (.str z) M = (ms e M).bind fun ds M2 => f (.str z) ds M2 := rfl
theorem meK_lst (f : D → List D → Mem → R RV) (own : OwnM) (nm : Str) (xs : List D) : meK [("list", f)] own nm ms e (.lst xs) M = (ms e M).bind fun ds M2 => f (.lst xs) ds M2 := rfl
theorem meK_ref (f : D → List D → Mem → R RV) (own : OwnM) (nm : Str) (i : Nat) (xs : List D) (h : M[i]? = some (.lst xs)) : meK [("list", f)] own nm ms e (.ref i) M = (ms e M).bind fun ds M2 => f (.ref i) ds M2 := by
  unfold meK
  have : tyD M (.ref i) = some "list" := by unfold tyD; dsimp only; rw [h]
  rw [this]
  rfl
theorem split_ok {a b : Str} (h : (b.length == 0) = false) (hl : a.length + 2 ≤ sizeLine) : splitS (.str a) [.str b] M = .ok (.own (.lst ((Txt.split a b).map D.str))) M := by
  show (if (b.length == 0) = false ∧ a.length + 2 ≤ sizeLine then R.ok (RV.own (.lst ((Txt.split a b).map D.str))) M else .stuck) = _
  rw [if_pos ⟨h, hl⟩]
theorem join_lst {a : Str} {ys : List Str} (h : (ys.map fun y : Str => y.length).sum + ys.length * a.length ≤ 16777216) : joinS (.str a) [.lst (ys.map D.str)] M = .ok (.val (.str (Txt.join a ys))) M := by
  show (match (seqA M (.lst (ys.map D.str))).bind strsOf with
    | some ys => if (ys.map fun y : Str => y.length).sum + ys.length * a.length ≤ 16777216 then R.ok (RV.val (D.str (Txt.join a ys))) M else .stuck
    | none => .stuck) = _
  rw [show (seqA M (.lst (ys.map D.str))).bind strsOf = some ys from strs_map ys]
  show (if (ys.map fun y : Str => y.length).sum + ys.length * a.length ≤ 16777216 then R.ok (RV.val (D.str (Txt.join a ys))) M else .stuck) = _
  rw [if_pos h]
theorem sl_str {z : Str} (lo hi : Option Int) (h : z.length ≤ sizeLine) : slS (.str z) lo hi M = .ok (.val (.str (cutS z lo hi))) M := by
  show (if z.length ≤ sizeLine then R.ok (RV.val (D.str (cutS z lo hi))) M else .stuck) = _
  rw [if_pos h]
theorem sl_tup (xs : List D) (lo hi : Option Int) : slS (.tup xs) lo hi M = .ok (.val (.tup (cutL xs lo hi))) M := rfl
theorem sl_lst (xs : List D) (lo hi : Option Int) : slS (.lst xs) lo hi M = .ok (.own (.lst (cutL xs lo hi))) M := rfl
theorem tl_cut (z : Str) (lo hi : Option Int) : tl (cutS z lo hi) = ((tl z).drop (HT.sIx z.length 0 lo)).take (HT.sIx z.length z.length hi - HT.sIx z.length 0 lo) := rfl
theorem sIx1 {n : Nat} (d : Nat) (h : 1 ≤ n) : HT.sIx n d (some 1) = 1 := by
  rw [show (some 1 : Option Int) = some ((1 : Nat) : Int) from rfl, HT.sIx_nat]
  omega
/-- z[:1], z[1:] -/
theorem cut_first {z : Str} {c : Nat} {r : List Nat} (h : tl z = c :: r) : cutS z none (some 1) = ⟨#[c]⟩ := by
  apply str_ext
  rw [tl_cut, h, HT.sIx_none, sIx1 _ (by rw [len_tl, h]; simp)]
  rfl
theorem cut_rest {z : Str} {c : Nat} {r : List Nat} (h : tl z = c :: r) : tl (cutS z (some 1) none) = r := by
  have hl : z.length = r.length + 1 := by rw [len_tl, h]; rfl
  rw [tl_cut, h, HT.sIx_none, sIx1 _ (by omega), hl]
  simp
theorem sz0 : (0 ≤ sizeLine) = True := by rw [sizeLine_eq]; simp
theorem sz1 : (1 ≤ sizeLine) = True := by rw [sizeLine_eq]; simp
theorem sz2 : (2 ≤ sizeLine) = True := by rw [sizeLine_eq]; simp
theorem sz3 : (3 ≤ sizeLine) = True := by rw [sizeLine_eq]; simp
theorem sz4 : (4 ≤ sizeLine) = True := by rw [sizeLine_eq]; simp
theorem sz5 : (5 ≤ sizeLine) = True := by rw [sizeLine_eq]; simp
theorem sz6 : (6 ≤ sizeLine) = True := by rw [sizeLine_eq]; simp
theorem sz7 : (7 ≤ sizeLine) = True := by rw [sizeLine_eq]; simp
theorem sz8 : (8 ≤ sizeLine) = True := by rw [sizeLine_eq]; simp
theorem sz9 : (9 ≤ sizeLine) = True := by rw [sizeLine_eq]; simp
end
end Pc

set_option Elab.async false
set_option linter.all false
set_option maxRecDepth 100000
set_option maxHeartbeats 0
set_option autoImplicit false
namespace Pc
open PySem PySem.Spec PyProof.Rows L2
/-! the tables -/
def top (i : Nat) : Stmt := PySem.Challenge.pw_partlymet_k71_errors.main.body.getD i (.Pass ⟨0, 0, 0, 0⟩)
def clsBody : Stmt → List Stmt
  | .ClassDef _ _ _ b _ _ _ _ _ _ _ => b
  | _ => []
def cl (i j : Nat) : Stmt := (clsBody (top i)).getD j (.Pass ⟨0, 0, 0, 0⟩)
def f__law_begun_pen : FDef := ⟨("_law_begun_pen", none), "_law_begun_pen", "_law_begun_pen", ["script"], ["script"], [], defArgs (top 21), defBody (top 21), defScope (top 21)⟩
def f__law_draw : FDef := ⟨("_law_draw", none), "_law_draw", "_law_draw", ["pen", "span"], ["pen", "span", "digit", "turn", "cell", "mixed"], ["pen"], defArgs (top 22), defBody (top 22), defScope (top 22)⟩
def f__law_pick : FDef := ⟨("_law_pick", none), "_law_pick", "_law_pick", ["pen", "options"], ["pen", "options"], [], defArgs (top 23), defBody (top 23), defScope (top 23)⟩
def f__law_far_number : FDef := ⟨("_law_far_number", none), "_law_far_number", "_law_far_number", ["pen"], ["pen", "found", "k"], [], defArgs (top 24), defBody (top 24), defScope (top 24)⟩
def f__law_barred : FDef := ⟨("_law_barred", none), "_law_barred", "_law_barred", [], ["words"], [], defArgs (top 25), defBody (top 25), defScope (top 25)⟩
def f__law_is_name : FDef := ⟨("_law_is_name", none), "_law_is_name", "_law_is_name", ["word"], ["word", "odd", "sign"], [], defArgs (top 26), defBody (top 26), defScope (top 26)⟩
def f__law_new_words : FDef := ⟨("_law_new_words", none), "_law_new_words", "_law_new_words", ["pen", "many"], ["pen", "many", "letters", "found", "k", "size", "word", "j", "pairs", "sign", "pair"], ["found"], defArgs (top 27), defBody (top 27), defScope (top 27)⟩
def f__law_classes : FDef := ⟨("_law_classes", none), "_law_classes", "_law_classes", ["e"], ["e", "found", "one"], ["found"], defArgs (top 28), defBody (top 28), defScope (top 28)⟩
def f__law_is_one : FDef := ⟨("_law_is_one", none), "_law_is_one", "_law_is_one", ["e", "is_own"], ["e", "is_own", "is_based"], [], defArgs (top 29), defBody (top 29), defScope (top 29)⟩
def f__law_numbered : FDef := ⟨("_law_numbered", none), "_law_numbered", "_law_numbered", ["number"], ["number", "found"], [], defArgs (top 30), defBody (top 30), defScope (top 30)⟩
def f__law_numbers : FDef := ⟨("_law_numbers", none), "_law_numbers", "_law_numbers", ["made"], ["made", "found"], [], defArgs (top 31), defBody (top 31), defScope (top 31)⟩
def f__law_numbered_right : FDef := ⟨("_law_numbered_right", none), "_law_numbered_right", "_law_numbered_right", ["made"], ["made", "found", "k"], [], defArgs (top 32), defBody (top 32), defScope (top 32)⟩
def f__law_told : FDef := ⟨("_law_told", none), "_law_told", "_law_told", ["text", "places"], ["text", "places"], [], defArgs (top 33), defBody (top 33), defScope (top 33)⟩
def f__law_told_fields : FDef := ⟨("_law_told_fields", none), "_law_told_fields", "_law_told_fields", ["made"], ["made"], [], defArgs (top 34), defBody (top 34), defScope (top 34)⟩
def f__law_told_right : FDef := ⟨("_law_told_right", none), "_law_told_right", "_law_told_right", ["made"], ["made", "found", "k"], [], defArgs (top 35), defBody (top 35), defScope (top 35)⟩
def f__law_plain_right : FDef := ⟨("_law_plain_right", none), "_law_plain_right", "_law_plain_right", [], ["one", "two", "three", "four", "five", "six", "found"], ["found"], defArgs (top 36), defBody (top 36), defScope (top 36)⟩
def f_law : FDef := ⟨("law", none), "law", "law", ["script"], ["script", "pen", "turn", "number", "text", "places", "k", "row", "away", "place", "made", "others", "told", "moved"], ["places", "pen"], defArgs (top 37), defBody (top 37), defScope (top 37)⟩
def T0 : Tab := [f__law_begun_pen, f__law_draw, f__law_pick, f__law_far_number, f__law_barred, f__law_is_name, f__law_new_words, f__law_classes, f__law_is_one, f__law_numbered, f__law_numbers, f__law_numbered_right, f__law_told, f__law_told_fields, f__law_told_right, f__law_plain_right, f_law]
def T : Tab := T0
def fnA0 : List (Str × Nat) := [("_law_begun_pen", 1), ("_law_draw", 2), ("_law_pick", 2), ("_law_far_number", 1), ("_law_barred", 0), ("_law_is_name", 1), ("_law_new_words", 2), ("_law_classes", 1), ("_law_is_one", 2), ("_law_numbered", 1), ("_law_numbers", 1), ("_law_numbered_right", 1), ("_law_told", 2), ("_law_told_fields", 1), ("_law_told_right", 1), ("_law_plain_right", 0), ("law", 1)]
def clA0 : List (Str × (Bool × Nat)) := []
def con0 : List (Str × D) := [("__name__", .str "law_partlymet_k71_errors")]
def frA0 : List Str := ["len", "abs", "int", "list", "tuple", "range", "isinstance", "repr"]
def meA0 : List ((Str × Str) × Nat) := []
def okA0 : List (Str × Str) := []
def exA0 : List (Str × (Bool × Option Str)) := [("BadPointers", (true, some "index")), ("BadContract", (true, some "line")), ("BadProgram", (true, some "line")), ("BadPlaces", (false, none)), ("BadCount", (false, some "count")), ("OtherPointers", (false, none)), ("HasRegisters", (false, none)), ("NoLine", (false, some "line")), ("NotTwo", (false, none)), ("TooMany", (true, some "limit")), ("Stuck", (false, some "places")), ("BadName", (false, some "name")), ("Taken", (true, some "name")), ("NoFunction", (false, some "name")), ("Parted", (false, some "places")), ("Clash", (false, none)), ("NoFact", (false, some "index")), ("NothingToUndo", (false, none))]
def xaA0 : List (Str × Str) := [("BadPointers", "index"), ("BadContract", "line"), ("BadProgram", "line"), ("BadCount", "count"), ("NoLine", "line"), ("TooMany", "limit"), ("Stuck", "places"), ("BadName", "name"), ("Taken", "name"), ("NoFunction", "name"), ("Parted", "places"), ("NoFact", "index")]
def is_BadPlaces : List (Kd × Bool) := [((8, "BadPointers"), false), ((8, "BadContract"), false), ((8, "BadProgram"), false), ((8, "BadPlaces"), true), ((8, "BadCount"), false), ((8, "OtherPointers"), false), ((8, "HasRegisters"), false), ((8, "NoLine"), false), ((8, "NotTwo"), false), ((8, "TooMany"), false), ((8, "Stuck"), false), ((8, "BadName"), false), ((8, "Taken"), false), ((8, "NoFunction"), false), ((8, "Parted"), false), ((8, "Clash"), false), ((8, "NoFact"), false), ((8, "NothingToUndo"), false)]
def is_OtherPointers : List (Kd × Bool) := [((8, "BadPointers"), false), ((8, "BadContract"), false), ((8, "BadProgram"), false), ((8, "BadPlaces"), false), ((8, "BadCount"), false), ((8, "OtherPointers"), true), ((8, "HasRegisters"), false), ((8, "NoLine"), false), ((8, "NotTwo"), false), ((8, "TooMany"), false), ((8, "Stuck"), false), ((8, "BadName"), false), ((8, "Taken"), false), ((8, "NoFunction"), false), ((8, "Parted"), false), ((8, "Clash"), false), ((8, "NoFact"), false), ((8, "NothingToUndo"), false)]
def is_HasRegisters : List (Kd × Bool) := [((8, "BadPointers"), false), ((8, "BadContract"), false), ((8, "BadProgram"), false), ((8, "BadPlaces"), false), ((8, "BadCount"), false), ((8, "OtherPointers"), false), ((8, "HasRegisters"), true), ((8, "NoLine"), false), ((8, "NotTwo"), false), ((8, "TooMany"), false), ((8, "Stuck"), false), ((8, "BadName"), false), ((8, "Taken"), false), ((8, "NoFunction"), false), ((8, "Parted"), false), ((8, "Clash"), false), ((8, "NoFact"), false), ((8, "NothingToUndo"), false)]
def is_NotTwo : List (Kd × Bool) := [((8, "BadPointers"), false), ((8, "BadContract"), false), ((8, "BadProgram"), false), ((8, "BadPlaces"), false), ((8, "BadCount"), false), ((8, "OtherPointers"), false), ((8, "HasRegisters"), false), ((8, "NoLine"), false), ((8, "NotTwo"), true), ((8, "TooMany"), false), ((8, "Stuck"), false), ((8, "BadName"), false), ((8, "Taken"), false), ((8, "NoFunction"), false), ((8, "Parted"), false), ((8, "Clash"), false), ((8, "NoFact"), false), ((8, "NothingToUndo"), false)]
def is_Clash : List (Kd × Bool) := [((8, "BadPointers"), false), ((8, "BadContract"), false), ((8, "BadProgram"), false), ((8, "BadPlaces"), false), ((8, "BadCount"), false), ((8, "OtherPointers"), false), ((8, "HasRegisters"), false), ((8, "NoLine"), false), ((8, "NotTwo"), false), ((8, "TooMany"), false), ((8, "Stuck"), false), ((8, "BadName"), false), ((8, "Taken"), false), ((8, "NoFunction"), false), ((8, "Parted"), false), ((8, "Clash"), true), ((8, "NoFact"), false), ((8, "NothingToUndo"), false)]
def is_NothingToUndo : List (Kd × Bool) := [((8, "BadPointers"), false), ((8, "BadContract"), false), ((8, "BadProgram"), false), ((8, "BadPlaces"), false), ((8, "BadCount"), false), ((8, "OtherPointers"), false), ((8, "HasRegisters"), false), ((8, "NoLine"), false), ((8, "NotTwo"), false), ((8, "TooMany"), false), ((8, "Stuck"), false), ((8, "BadName"), false), ((8, "Taken"), false), ((8, "NoFunction"), false), ((8, "Parted"), false), ((8, "Clash"), false), ((8, "NoFact"), false), ((8, "NothingToUndo"), true)]
def is_PartlyError : List (Kd × Bool) := [((8, "BadPointers"), true), ((8, "BadContract"), true), ((8, "BadProgram"), true), ((8, "BadPlaces"), true), ((8, "BadCount"), true), ((8, "OtherPointers"), true), ((8, "HasRegisters"), true), ((8, "NoLine"), true), ((8, "NotTwo"), true), ((8, "TooMany"), true), ((8, "Stuck"), true), ((8, "BadName"), true), ((8, "Taken"), true), ((8, "NoFunction"), true), ((8, "Parted"), true), ((8, "Clash"), true), ((8, "NoFact"), true), ((8, "NothingToUndo"), true)]
def is_ValueError : List (Kd × Bool) := [((0, ""), false), ((1, ""), false), ((2, ""), false), ((3, ""), false), ((4, ""), false), ((5, ""), false), ((6, ""), false), ((8, "BadPointers"), true), ((8, "BadContract"), true), ((8, "BadProgram"), true), ((8, "BadPlaces"), true), ((8, "BadCount"), true), ((8, "OtherPointers"), true), ((8, "HasRegisters"), true), ((8, "NoLine"), true), ((8, "NotTwo"), true), ((8, "TooMany"), true), ((8, "Stuck"), true), ((8, "BadName"), true), ((8, "Taken"), true), ((8, "NoFunction"), true), ((8, "Parted"), true), ((8, "Clash"), true), ((8, "NoFact"), true), ((8, "NothingToUndo"), true)]
def is_BadContract : List (Kd × Bool) := [((8, "BadPointers"), false), ((8, "BadContract"), true), ((8, "BadProgram"), false), ((8, "BadPlaces"), false), ((8, "BadCount"), false), ((8, "OtherPointers"), false), ((8, "HasRegisters"), false), ((8, "NoLine"), false), ((8, "NotTwo"), false), ((8, "TooMany"), false), ((8, "Stuck"), false), ((8, "BadName"), false), ((8, "Taken"), false), ((8, "NoFunction"), false), ((8, "Parted"), false), ((8, "Clash"), false), ((8, "NoFact"), false), ((8, "NothingToUndo"), false)]
def is_BadCount : List (Kd × Bool) := [((8, "BadPointers"), false), ((8, "BadContract"), false), ((8, "BadProgram"), false), ((8, "BadPlaces"), false), ((8, "BadCount"), true), ((8, "OtherPointers"), false), ((8, "HasRegisters"), false), ((8, "NoLine"), false), ((8, "NotTwo"), false), ((8, "TooMany"), false), ((8, "Stuck"), false), ((8, "BadName"), false), ((8, "Taken"), false), ((8, "NoFunction"), false), ((8, "Parted"), false), ((8, "Clash"), false), ((8, "NoFact"), false), ((8, "NothingToUndo"), false)]
def is_BadName : List (Kd × Bool) := [((8, "BadPointers"), false), ((8, "BadContract"), false), ((8, "BadProgram"), false), ((8, "BadPlaces"), false), ((8, "BadCount"), false), ((8, "OtherPointers"), false), ((8, "HasRegisters"), false), ((8, "NoLine"), false), ((8, "NotTwo"), false), ((8, "TooMany"), false), ((8, "Stuck"), false), ((8, "BadName"), true), ((8, "Taken"), false), ((8, "NoFunction"), false), ((8, "Parted"), false), ((8, "Clash"), false), ((8, "NoFact"), false), ((8, "NothingToUndo"), false)]
def is_BadPointers : List (Kd × Bool) := [((8, "BadPointers"), true), ((8, "BadContract"), false), ((8, "BadProgram"), false), ((8, "BadPlaces"), false), ((8, "BadCount"), false), ((8, "OtherPointers"), false), ((8, "HasRegisters"), false), ((8, "NoLine"), false), ((8, "NotTwo"), false), ((8, "TooMany"), false), ((8, "Stuck"), false), ((8, "BadName"), false), ((8, "Taken"), false), ((8, "NoFunction"), false), ((8, "Parted"), false), ((8, "Clash"), false), ((8, "NoFact"), false), ((8, "NothingToUndo"), false)]
def is_BadProgram : List (Kd × Bool) := [((8, "BadPointers"), false), ((8, "BadContract"), false), ((8, "BadProgram"), true), ((8, "BadPlaces"), false), ((8, "BadCount"), false), ((8, "OtherPointers"), false), ((8, "HasRegisters"), false), ((8, "NoLine"), false), ((8, "NotTwo"), false), ((8, "TooMany"), false), ((8, "Stuck"), false), ((8, "BadName"), false), ((8, "Taken"), false), ((8, "NoFunction"), false), ((8, "Parted"), false), ((8, "Clash"), false), ((8, "NoFact"), false), ((8, "NothingToUndo"), false)]
def is_NoFact : List (Kd × Bool) := [((8, "BadPointers"), false), ((8, "BadContract"), false), ((8, "BadProgram"), false), ((8, "BadPlaces"), false), ((8, "BadCount"), false), ((8, "OtherPointers"), false), ((8, "HasRegisters"), false), ((8, "NoLine"), false), ((8, "NotTwo"), false), ((8, "TooMany"), false), ((8, "Stuck"), false), ((8, "BadName"), false), ((8, "Taken"), false), ((8, "NoFunction"), false), ((8, "Parted"), false), ((8, "Clash"), false), ((8, "NoFact"), true), ((8, "NothingToUndo"), false)]
def is_NoFunction : List (Kd × Bool) := [((8, "BadPointers"), false), ((8, "BadContract"), false), ((8, "BadProgram"), false), ((8, "BadPlaces"), false), ((8, "BadCount"), false), ((8, "OtherPointers"), false), ((8, "HasRegisters"), false), ((8, "NoLine"), false), ((8, "NotTwo"), false), ((8, "TooMany"), false), ((8, "Stuck"), false), ((8, "BadName"), false), ((8, "Taken"), false), ((8, "NoFunction"), true), ((8, "Parted"), false), ((8, "Clash"), false), ((8, "NoFact"), false), ((8, "NothingToUndo"), false)]
def is_NoLine : List (Kd × Bool) := [((8, "BadPointers"), false), ((8, "BadContract"), false), ((8, "BadProgram"), false), ((8, "BadPlaces"), false), ((8, "BadCount"), false), ((8, "OtherPointers"), false), ((8, "HasRegisters"), false), ((8, "NoLine"), true), ((8, "NotTwo"), false), ((8, "TooMany"), false), ((8, "Stuck"), false), ((8, "BadName"), false), ((8, "Taken"), false), ((8, "NoFunction"), false), ((8, "Parted"), false), ((8, "Clash"), false), ((8, "NoFact"), false), ((8, "NothingToUndo"), false)]
def is_Parted : List (Kd × Bool) := [((8, "BadPointers"), false), ((8, "BadContract"), false), ((8, "BadProgram"), false), ((8, "BadPlaces"), false), ((8, "BadCount"), false), ((8, "OtherPointers"), false), ((8, "HasRegisters"), false), ((8, "NoLine"), false), ((8, "NotTwo"), false), ((8, "TooMany"), false), ((8, "Stuck"), false), ((8, "BadName"), false), ((8, "Taken"), false), ((8, "NoFunction"), false), ((8, "Parted"), true), ((8, "Clash"), false), ((8, "NoFact"), false), ((8, "NothingToUndo"), false)]
def is_Stuck : List (Kd × Bool) := [((8, "BadPointers"), false), ((8, "BadContract"), false), ((8, "BadProgram"), false), ((8, "BadPlaces"), false), ((8, "BadCount"), false), ((8, "OtherPointers"), false), ((8, "HasRegisters"), false), ((8, "NoLine"), false), ((8, "NotTwo"), false), ((8, "TooMany"), false), ((8, "Stuck"), true), ((8, "BadName"), false), ((8, "Taken"), false), ((8, "NoFunction"), false), ((8, "Parted"), false), ((8, "Clash"), false), ((8, "NoFact"), false), ((8, "NothingToUndo"), false)]
def is_Taken : List (Kd × Bool) := [((8, "BadPointers"), false), ((8, "BadContract"), false), ((8, "BadProgram"), false), ((8, "BadPlaces"), false), ((8, "BadCount"), false), ((8, "OtherPointers"), false), ((8, "HasRegisters"), false), ((8, "NoLine"), false), ((8, "NotTwo"), false), ((8, "TooMany"), false), ((8, "Stuck"), false), ((8, "BadName"), false), ((8, "Taken"), true), ((8, "NoFunction"), false), ((8, "Parted"), false), ((8, "Clash"), false), ((8, "NoFact"), false), ((8, "NothingToUndo"), false)]
def is_TooMany : List (Kd × Bool) := [((8, "BadPointers"), false), ((8, "BadContract"), false), ((8, "BadProgram"), false), ((8, "BadPlaces"), false), ((8, "BadCount"), false), ((8, "OtherPointers"), false), ((8, "HasRegisters"), false), ((8, "NoLine"), false), ((8, "NotTwo"), false), ((8, "TooMany"), true), ((8, "Stuck"), false), ((8, "BadName"), false), ((8, "Taken"), false), ((8, "NoFunction"), false), ((8, "Parted"), false), ((8, "Clash"), false), ((8, "NoFact"), false), ((8, "NothingToUndo"), false)]
def isA0 : List (Str × List (Kd × Bool)) := [("BadPlaces", is_BadPlaces), ("OtherPointers", is_OtherPointers), ("HasRegisters", is_HasRegisters), ("NotTwo", is_NotTwo), ("Clash", is_Clash), ("NothingToUndo", is_NothingToUndo), ("PartlyError", is_PartlyError), ("ValueError", is_ValueError), ("BadContract", is_BadContract), ("BadCount", is_BadCount), ("BadName", is_BadName), ("BadPointers", is_BadPointers), ("BadProgram", is_BadProgram), ("NoFact", is_NoFact), ("NoFunction", is_NoFunction), ("NoLine", is_NoLine), ("Parted", is_Parted), ("Stuck", is_Stuck), ("Taken", is_Taken), ("TooMany", is_TooMany)]
def G : GE := ⟨fnA0, clA0, con0, frA0, meA0, okA0, [], 1000, exA0, xaA0, isA0⟩
theorem isl_BadPlaces : G.isA.lookup ("BadPlaces" : Str) = some is_BadPlaces := by kernel_rfl
theorem isl_OtherPointers : G.isA.lookup ("OtherPointers" : Str) = some is_OtherPointers := by kernel_rfl
theorem isl_HasRegisters : G.isA.lookup ("HasRegisters" : Str) = some is_HasRegisters := by kernel_rfl
theorem isl_NotTwo : G.isA.lookup ("NotTwo" : Str) = some is_NotTwo := by kernel_rfl
theorem isl_Clash : G.isA.lookup ("Clash" : Str) = some is_Clash := by kernel_rfl
theorem isl_NothingToUndo : G.isA.lookup ("NothingToUndo" : Str) = some is_NothingToUndo := by kernel_rfl
theorem isl_PartlyError : G.isA.lookup ("PartlyError" : Str) = some is_PartlyError := by kernel_rfl
theorem isl_ValueError : G.isA.lookup ("ValueError" : Str) = some is_ValueError := by kernel_rfl
theorem isl_BadContract : G.isA.lookup ("BadContract" : Str) = some is_BadContract := by kernel_rfl
theorem isl_BadCount : G.isA.lookup ("BadCount" : Str) = some is_BadCount := by kernel_rfl
theorem isl_BadName : G.isA.lookup ("BadName" : Str) = some is_BadName := by kernel_rfl
theorem isl_BadPointers : G.isA.lookup ("BadPointers" : Str) = some is_BadPointers := by kernel_rfl
theorem isl_BadProgram : G.isA.lookup ("BadProgram" : Str) = some is_BadProgram := by kernel_rfl
theorem isl_NoFact : G.isA.lookup ("NoFact" : Str) = some is_NoFact := by kernel_rfl
theorem isl_NoFunction : G.isA.lookup ("NoFunction" : Str) = some is_NoFunction := by kernel_rfl
theorem isl_NoLine : G.isA.lookup ("NoLine" : Str) = some is_NoLine := by kernel_rfl
theorem isl_Parted : G.isA.lookup ("Parted" : Str) = some is_Parted := by kernel_rfl
theorem isl_Stuck : G.isA.lookup ("Stuck" : Str) = some is_Stuck := by kernel_rfl
theorem isl_Taken : G.isA.lookup ("Taken" : Str) = some is_Taken := by kernel_rfl
theorem isl_TooMany : G.isA.lookup ("TooMany" : Str) = some is_TooMany := by kernel_rfl
def nmz0 : List PySem.Str := ["__name__", "PartlyError", "BadPointers", "BadContract", "BadProgram", "BadPlaces", "BadCount", "OtherPointers", "HasRegisters", "NoLine", "NotTwo", "TooMany", "Stuck", "BadName", "Taken", "NoFunction", "Parted", "Clash", "NoFact", "NothingToUndo"]
def nmz1 : List PySem.Str := ["_law_begun_pen", "_law_draw", "_law_pick", "_law_far_number", "_law_barred", "_law_is_name", "_law_new_words", "_law_classes", "_law_is_one", "_law_numbered", "_law_numbers", "_law_numbered_right", "_law_told", "_law_told_fields", "_law_told_right", "_law_plain_right"]
def nms : List PySem.Str := nmz0 ++ nmz1
def ownG (Y : Dy) (name : Str) : OwnM := fun c => (G.meA.lookup (name, c)).map fun n => (n, Y.meth c name)
/-- _law_begun_pen -/
def m__law_begun_pen (Y : Dy) : MS := (mSeq (mRet (mDict [((mVal (.str "cells")), (mBlt listS (mConsA false (mSlice (mVar 0) mNoPart (mPart (mVal (.int (63))))) mNil))), ((mVal (.str "turn")), (mVal (.int (0)))), ((mVal (.str "left")), (mVal (.int (0))))])) mNext)
theorem tr__law_begun_pen (Y : Dy) : trS depth (f__law_begun_pen.tc G Y) f__law_begun_pen.body = m__law_begun_pen Y := by kernel_rfl
theorem c__law_begun_pen (k : Nat) (ds : List D) (M : Mem) : (mkDy G T (k + 1)).call "_law_begun_pen" ds M = gcR M.length (runS (m__law_begun_pen (mkDy G T k) (startE ["script"] ds) M)) := by
  have h : T.fn ("_law_begun_pen" : Str) = some f__law_begun_pen := by kernel_rfl
  show (match T.fn ("_law_begun_pen" : Str) with
    | some d => runF G (mkDy G T k) d ds M
    | none => .stuck) = _
  rw [h]
  show runF G (mkDy G T k) f__law_begun_pen ds M = _
  unfold runF
  rw [tr__law_begun_pen]
  rfl
/-- _law_draw -/
def m__law_draw (Y : Dy) : MS := (mSeq (mIfS (mBl (mCmp .Gt (mIdx (mVar 0) (mVal (.str "left"))) (mVal (.int (0))))) (mSeq (mSet false 2 (mBin .Mod (mBlt intS (mConsA false (mIdx (mVar 0) (mVal (.str "left"))) mNil)) (mVar 1))) (mSeq (mSub false (mBin .FloorDiv (mIdx (mVar 0) (mVal (.str "left"))) (mVar 1)) (mVar 0) (mVal (.str "left"))) (mSeq (mRet (mVar 2)) mNext))) mNext) (mSeq (mSet false 3 (mIdx (mVar 0) (mVal (.str "turn")))) (mSeq (mSub false (mBin .Add (mVar 3) (mVal (.int (1)))) (mVar 0) (mVal (.str "turn"))) (mSeq (mSet false 4 (mBin .Add (mBin .Mult (mVal (.int (61))) (mVar 3)) (mVal (.int (13))))) (mSeq (mIfS (mBl (mCmp .NotEq (mIdx (mVar 0) (mVal (.str "cells"))) (mLst mNil))) (mSeq (mSet false 4 (mIdx (mIdx (mVar 0) (mVal (.str "cells"))) (mBin .Mod (mBlt intS (mConsA false (mVar 3) mNil)) (mBlt lenS (mConsA false (mIdx (mVar 0) (mVal (.str "cells"))) mNil))))) mNext) mNext) (mSeq (mIfS (mAndT (mBl (mCmp .Lt (mVar 3) (mBlt lenS (mConsA false (mIdx (mVar 0) (mVal (.str "cells"))) mNil)))) (mBl (mCmp .GtE (mBlt absS (mConsA false (mVar 4) mNil)) (mBin .Pow (mVal (.int (10))) (mVal (.int (18))))))) (mSeq (mSub false (mBin .FloorDiv (mBin .Sub (mBlt absS (mConsA false (mVar 4) mNil)) (mBin .Pow (mVal (.int (10))) (mVal (.int (18))))) (mVar 1)) (mVar 0) (mVal (.str "left"))) (mSeq (mRet (mBin .Mod (mBlt intS (mConsA false (mBin .Sub (mBlt absS (mConsA false (mVar 4) mNil)) (mBin .Pow (mVal (.int (10))) (mVal (.int (18))))) mNil)) (mVar 1))) mNext)) mNext) (mSeq (mSet false 5 (mBin .Mult (mBin .Mod (mBlt intS (mConsA false (mVar 4) mNil)) (mVal (.int (4294967087)))) (mVal (.int (48611))))) (mSeq (mSet false 5 (mBin .Mod (mBlt intS (mConsA false (mBin .Add (mBin .Add (mVar 5) (mBin .Mult (mVar 3) (mBin .Add (mBin .Mult (mVar 3) (mVal (.int (27919)))) (mVal (.int (10601)))))) (mVal (.int (41)))) mNil)) (mVal (.int (4294967029))))) (mSeq (mSet false 5 (mBin .Mod (mBlt intS (mConsA false (mBin .Mult (mVar 5) (mBin .Add (mVar 5) (mVal (.int (75013))))) mNil)) (mVal (.int (4294966997))))) (mSeq (mSet false 5 (mBin .Mod (mBlt intS (mConsA false (mBin .Add (mBin .Add (mBin .Mult (mVar 5) (mVar 5)) (mBin .Mult (mVal (.int (30427))) (mVar 5))) (mBin .Mult (mVal (.int (19))) (mVar 3))) mNil)) (mVal (.int (4294966981))))) (mSeq (mRet (mBin .Mod (mBlt intS (mConsA false (mBin .FloorDiv (mBin .Mod (mBlt intS (mConsA false (mBin .Mult (mVar 5) (mBin .Add (mVar 5) (mVal (.int (58111))))) mNil)) (mVal (.int (4294966943)))) (mVal (.int (64)))) mNil)) (mVar 1))) mNext)))))))))))
theorem tr__law_draw (Y : Dy) : trS depth (f__law_draw.tc G Y) f__law_draw.body = m__law_draw Y := by kernel_rfl
theorem c__law_draw (k : Nat) (ds : List D) (M : Mem) : (mkDy G T (k + 1)).call "_law_draw" ds M = gcR M.length (runS (m__law_draw (mkDy G T k) (startE ["pen", "span", "digit", "turn", "cell", "mixed"] ds) M)) := by
  have h : T.fn ("_law_draw" : Str) = some f__law_draw := by kernel_rfl
  show (match T.fn ("_law_draw" : Str) with
    | some d => runF G (mkDy G T k) d ds M
    | none => .stuck) = _
  rw [h]
  show runF G (mkDy G T k) f__law_draw ds M = _
  unfold runF
  rw [tr__law_draw]
  rfl
/-- _law_pick -/
def m__law_pick (Y : Dy) : MS := (mSeq (mRet (mIdx (mVar 1) (mCall 2 (Y.call "_law_draw") (mConsA false (mVar 0) (mConsA false (mBlt lenS (mConsA false (mVar 1) mNil)) mNil))))) mNext)
theorem tr__law_pick (Y : Dy) : trS depth (f__law_pick.tc G Y) f__law_pick.body = m__law_pick Y := by kernel_rfl
theorem c__law_pick (k : Nat) (ds : List D) (M : Mem) : (mkDy G T (k + 1)).call "_law_pick" ds M = gcR M.length (runS (m__law_pick (mkDy G T k) (startE ["pen", "options"] ds) M)) := by
  have h : T.fn ("_law_pick" : Str) = some f__law_pick := by kernel_rfl
  show (match T.fn ("_law_pick" : Str) with
    | some d => runF G (mkDy G T k) d ds M
    | none => .stuck) = _
  rw [h]
  show runF G (mkDy G T k) f__law_pick ds M = _
  unfold runF
  rw [tr__law_pick]
  rfl
/-- _law_far_number -/
def m__law_far_number (Y : Dy) : MS := (mSeq (mSet false 1 (mVal (.int (0)))) (mSeq (mFor (mIRng1 (mConsA false (mVal (.int (7))) mNil)) (gN 2) (mSeq (mSet false 1 (mBin .Add (mBin .Mult (mVar 1) (mBin .Pow (mVal (.int (10))) (mVal (.int (6))))) (mCall 2 (Y.call "_law_draw") (mConsA false (mVar 0) (mConsA false (mBin .Pow (mVal (.int (10))) (mVal (.int (6)))) mNil))))) mNext)) (mSeq (mRet (mIf (mBl (mCmp .Eq (mCall 2 (Y.call "_law_draw") (mConsA false (mVar 0) (mConsA false (mVal (.int (2))) mNil))) (mVal (.int (0))))) (mNeg (mVar 1)) (mVar 1))) mNext)))
theorem tr__law_far_number (Y : Dy) : trS depth (f__law_far_number.tc G Y) f__law_far_number.body = m__law_far_number Y := by kernel_rfl
theorem c__law_far_number (k : Nat) (ds : List D) (M : Mem) : (mkDy G T (k + 1)).call "_law_far_number" ds M = gcR M.length (runS (m__law_far_number (mkDy G T k) (startE ["pen", "found", "k"] ds) M)) := by
  have h : T.fn ("_law_far_number" : Str) = some f__law_far_number := by kernel_rfl
  show (match T.fn ("_law_far_number" : Str) with
    | some d => runF G (mkDy G T k) d ds M
    | none => .stuck) = _
  rw [h]
  show runF G (mkDy G T k) f__law_far_number ds M = _
  unfold runF
  rw [tr__law_far_number]
  rfl
/-- _law_barred -/
def m__law_barred (Y : Dy) : MS := (mSeq (mSet false 0 (mVal (.str "input load store set join part each copy up down fill step when else end times give call"))) (mSeq (mRet (mMeth (methAlts "split") (ownG Y "split") "split" (mBin .Add (mVar 0) (mVal (.str " to from upto is apart by"))) (mConsA false (mVal (.str " ")) mNil))) mNext))
theorem tr__law_barred (Y : Dy) : trS depth (f__law_barred.tc G Y) f__law_barred.body = m__law_barred Y := by kernel_rfl
theorem c__law_barred (k : Nat) (ds : List D) (M : Mem) : (mkDy G T (k + 1)).call "_law_barred" ds M = gcR M.length (runS (m__law_barred (mkDy G T k) (startE ["words"] ds) M)) := by
  have h : T.fn ("_law_barred" : Str) = some f__law_barred := by kernel_rfl
  show (match T.fn ("_law_barred" : Str) with
    | some d => runF G (mkDy G T k) d ds M
    | none => .stuck) = _
  rw [h]
  show runF G (mkDy G T k) f__law_barred ds M = _
  unfold runF
  rw [tr__law_barred]
  rfl
/-- _law_is_name -/
def m__law_is_name (Y : Dy) : MS := (mSeq (mSet false 1 (mLc (mIAny (mVar 0)) (gN 2) (mBl (mCmp .NotIn (mVar 2) (mVal (.str "abcdefghijklmnopqrstuvwxyz")))) (mA false (mVar 2)) [2])) (mSeq (mRet (mAnd (mChain .LtE .LtE (mVal (.int (1))) (mBlt lenS (mConsA false (mVar 0) mNil)) (mVal (.int (12)))) (mAnd (mCmp .Eq (mVar 1) (mLst mNil)) (mCmp .NotIn (mVar 0) (mCall 0 (Y.call "_law_barred") mNil))))) mNext))
theorem tr__law_is_name (Y : Dy) : trS depth (f__law_is_name.tc G Y) f__law_is_name.body = m__law_is_name Y := by kernel_rfl
theorem c__law_is_name (k : Nat) (ds : List D) (M : Mem) : (mkDy G T (k + 1)).call "_law_is_name" ds M = gcR M.length (runS (m__law_is_name (mkDy G T k) (startE ["word", "odd", "sign"] ds) M)) := by
  have h : T.fn ("_law_is_name" : Str) = some f__law_is_name := by kernel_rfl
  show (match T.fn ("_law_is_name" : Str) with
    | some d => runF G (mkDy G T k) d ds M
    | none => .stuck) = _
  rw [h]
  show runF G (mkDy G T k) f__law_is_name ds M = _
  unfold runF
  rw [tr__law_is_name]
  rfl
/-- _law_new_words -/
def m__law_new_words (Y : Dy) : MS := (mSeq (mAsg (gT 2 (gsCons (gN 2) (gsCons (gN 3) gsNil))) (mTup (mConsA false (mVal (.str "abcdefghijklmnopqrstuvwxyz")) (mConsA true (mLst mNil) mNil)))) (mSeq (mFor (mIRng1 (mConsA false (mVar 1) mNil)) (gN 4) (mSeq (mSet false 5 (mBin .Add (mVal (.int (1))) (mCall 2 (Y.call "_law_pick") (mConsA false (mVar 0) (mConsA false (mLst (mConsA false (mVal (.int (0))) (mConsA false (mVal (.int (0))) (mConsA false (mVal (.int (1))) (mConsA false (mVal (.int (2))) (mConsA false (mVal (.int (11))) (mConsA false (mCall 2 (Y.call "_law_draw") (mConsA false (mVar 0) (mConsA false (mVal (.int (12))) mNil))) mNil))))))) mNil))))) (mSeq (mSet false 6 (mMeth (methAlts "join") (ownG Y "join") "join" (mVal (.str "")) (mConsA false (mLc (mIRng1 (mConsA false (mVar 5) mNil)) (gN 7) mYes (mA false (mIdx (mVar 2) (mCall 2 (Y.call "_law_draw") (mConsA false (mVar 0) (mConsA false (mVal (.int (26))) mNil))))) [7]) mNil))) (mSeq (mIfS (mOrT (mNotT (mTru (mCall 1 (Y.call "_law_is_name") (mConsA false (mVar 6) mNil)))) (mBl (mCmp .In (mVar 6) (mVar 3)))) (mSeq (mSet false 8 (mLc (mIAny (mVar 2)) (gN 9) mYes (mA false (mBin .Add (mVar 9) (mVar 9))) [9])) (mSeq (mSet false 6 (mIdx (mLc (mIAny (mVar 8)) (gN 10) (mBl (mCmp .NotIn (mVar 10) (mVar 3))) (mA false (mVar 10)) [10]) (mVal (.int (0))))) mNext)) mNext) (mSeq (mDrop (mMeth (methAlts "append") (ownG Y "append") "append" (mVar 3) (mConsA false (mVar 6) mNil))) mNext))))) (mSeq (mRet (mVar 3)) mNext)))
theorem tr__law_new_words (Y : Dy) : trS depth (f__law_new_words.tc G Y) f__law_new_words.body = m__law_new_words Y := by kernel_rfl
theorem c__law_new_words (k : Nat) (ds : List D) (M : Mem) : (mkDy G T (k + 1)).call "_law_new_words" ds M = gcR M.length (runS (m__law_new_words (mkDy G T k) (startE ["pen", "many", "letters", "found", "k", "size", "word", "j", "pairs", "sign", "pair"] ds) M)) := by
  have h : T.fn ("_law_new_words" : Str) = some f__law_new_words := by kernel_rfl
  show (match T.fn ("_law_new_words" : Str) with
    | some d => runF G (mkDy G T k) d ds M
    | none => .stuck) = _
  rw [h]
  show runF G (mkDy G T k) f__law_new_words ds M = _
  unfold runF
  rw [tr__law_new_words]
  rfl
/-- _law_classes -/
def m__law_classes (Y : Dy) : MS := (mSeq (mSet true 1 (mLst (mConsA false (mIsi (fun k => is_BadContract.lookup k) (mVar 0)) (mConsA false (mIsi (fun k => is_BadCount.lookup k) (mVar 0)) (mConsA false (mIsi (fun k => is_BadName.lookup k) (mVar 0)) mNil))))) (mSeq (mSet true 1 (mBin .Add (mVar 1) (mLst (mConsA false (mIsi (fun k => is_BadPlaces.lookup k) (mVar 0)) (mConsA false (mIsi (fun k => is_BadPointers.lookup k) (mVar 0)) mNil))))) (mSeq (mSet true 1 (mBin .Add (mVar 1) (mLst (mConsA false (mIsi (fun k => is_BadProgram.lookup k) (mVar 0)) (mConsA false (mIsi (fun k => is_Clash.lookup k) (mVar 0)) mNil))))) (mSeq (mDrop (mMeth (methAlts "append") (ownG Y "append") "append" (mVar 1) (mConsA false (mIsi (fun k => is_HasRegisters.lookup k) (mVar 0)) mNil))) (mSeq (mSet true 1 (mBin .Add (mVar 1) (mLst (mConsA false (mIsi (fun k => is_NoFact.lookup k) (mVar 0)) (mConsA false (mIsi (fun k => is_NoFunction.lookup k) (mVar 0)) (mConsA false (mIsi (fun k => is_NoLine.lookup k) (mVar 0)) mNil)))))) (mSeq (mSet true 1 (mBin .Add (mVar 1) (mLst (mConsA false (mIsi (fun k => is_NotTwo.lookup k) (mVar 0)) (mConsA false (mIsi (fun k => is_NothingToUndo.lookup k) (mVar 0)) mNil))))) (mSeq (mSet true 1 (mBin .Add (mVar 1) (mLst (mConsA false (mIsi (fun k => is_OtherPointers.lookup k) (mVar 0)) (mConsA false (mIsi (fun k => is_Parted.lookup k) (mVar 0)) (mConsA false (mIsi (fun k => is_Stuck.lookup k) (mVar 0)) mNil)))))) (mSeq (mSet true 1 (mBin .Add (mVar 1) (mLst (mConsA false (mIsi (fun k => is_Taken.lookup k) (mVar 0)) (mConsA false (mIsi (fun k => is_TooMany.lookup k) (mVar 0)) mNil))))) (mSeq (mRet (mBlt lenS (mConsA false (mLc (mIAny (mVar 1)) (gN 2) (mTru (mVar 2)) (mA false (mVar 2)) [2]) mNil))) mNext)))))))))
theorem tr__law_classes (Y : Dy) : trS depth (f__law_classes.tc G Y) f__law_classes.body = m__law_classes Y := by kernel_rfl
theorem c__law_classes (k : Nat) (ds : List D) (M : Mem) : (mkDy G T (k + 1)).call "_law_classes" ds M = gcR M.length (runS (m__law_classes (mkDy G T k) (startE ["e", "found", "one"] ds) M)) := by
  have h : T.fn ("_law_classes" : Str) = some f__law_classes := by kernel_rfl
  show (match T.fn ("_law_classes" : Str) with
    | some d => runF G (mkDy G T k) d ds M
    | none => .stuck) = _
  rw [h]
  show runF G (mkDy G T k) f__law_classes ds M = _
  unfold runF
  rw [tr__law_classes]
  rfl
/-- _law_is_one -/
def m__law_is_one (Y : Dy) : MS := (mSeq (mSet false 2 (mAnd (mIsi (fun k => is_PartlyError.lookup k) (mVar 0)) (mIsi (fun k => is_ValueError.lookup k) (mVar 0)))) (mSeq (mRet (mAnd (mVar 1) (mAnd (mVar 2) (mCmp .Eq (mCall 1 (Y.call "_law_classes") (mConsA false (mVar 0) mNil)) (mVal (.int (1))))))) mNext))
theorem tr__law_is_one (Y : Dy) : trS depth (f__law_is_one.tc G Y) f__law_is_one.body = m__law_is_one Y := by kernel_rfl
theorem c__law_is_one (k : Nat) (ds : List D) (M : Mem) : (mkDy G T (k + 1)).call "_law_is_one" ds M = gcR M.length (runS (m__law_is_one (mkDy G T k) (startE ["e", "is_own", "is_based"] ds) M)) := by
  have h : T.fn ("_law_is_one" : Str) = some f__law_is_one := by kernel_rfl
  show (match T.fn ("_law_is_one" : Str) with
    | some d => runF G (mkDy G T k) d ds M
    | none => .stuck) = _
  rw [h]
  show runF G (mkDy G T k) f__law_is_one ds M = _
  unfold runF
  rw [tr__law_is_one]
  rfl
/-- _law_numbered -/
def m__law_numbered (Y : Dy) : MS := (mSeq (mSet false 1 (mLst (mConsA false (mExo "BadPointers" true (some "index") (mConsA false (mVar 0) mNil)) (mConsA false (mExo "BadContract" true (some "line") (mConsA false (mVar 0) mNil)) (mConsA false (mExo "BadProgram" true (some "line") (mConsA false (mVar 0) mNil)) (mConsA false (mExo "BadCount" false (some "count") (mConsA false (mVar 0) mNil)) mNil)))))) (mSeq (mRet (mBin .Add (mVar 1) (mLst (mConsA false (mExo "NoLine" false (some "line") (mConsA false (mVar 0) mNil)) (mConsA false (mExo "TooMany" true (some "limit") (mConsA false (mVar 0) mNil)) (mConsA false (mExo "NoFact" false (some "index") (mConsA false (mVar 0) mNil)) mNil)))))) mNext))
theorem tr__law_numbered (Y : Dy) : trS depth (f__law_numbered.tc G Y) f__law_numbered.body = m__law_numbered Y := by kernel_rfl
theorem c__law_numbered (k : Nat) (ds : List D) (M : Mem) : (mkDy G T (k + 1)).call "_law_numbered" ds M = gcR M.length (runS (m__law_numbered (mkDy G T k) (startE ["number", "found"] ds) M)) := by
  have h : T.fn ("_law_numbered" : Str) = some f__law_numbered := by kernel_rfl
  show (match T.fn ("_law_numbered" : Str) with
    | some d => runF G (mkDy G T k) d ds M
    | none => .stuck) = _
  rw [h]
  show runF G (mkDy G T k) f__law_numbered ds M = _
  unfold runF
  rw [tr__law_numbered]
  rfl
/-- _law_numbers -/
def m__law_numbers (Y : Dy) : MS := (mSeq (mSet false 1 (mLst (mConsA false (mAttrX (okB G) (oxB G) "index" (mIdx (mVar 0) (mVal (.int (0))))) (mConsA false (mAttrX (okB G) (oxB G) "line" (mIdx (mVar 0) (mVal (.int (1))))) (mConsA false (mAttrX (okB G) (oxB G) "line" (mIdx (mVar 0) (mVal (.int (2))))) (mConsA false (mAttrX (okB G) (oxB G) "count" (mIdx (mVar 0) (mVal (.int (3))))) mNil)))))) (mSeq (mRet (mBin .Add (mVar 1) (mLst (mConsA false (mAttrX (okB G) (oxB G) "line" (mIdx (mVar 0) (mVal (.int (4))))) (mConsA false (mAttrX (okB G) (oxB G) "limit" (mIdx (mVar 0) (mVal (.int (5))))) (mConsA false (mAttrX (okB G) (oxB G) "index" (mIdx (mVar 0) (mVal (.int (6))))) mNil)))))) mNext))
theorem tr__law_numbers (Y : Dy) : trS depth (f__law_numbers.tc G Y) f__law_numbers.body = m__law_numbers Y := by kernel_rfl
theorem c__law_numbers (k : Nat) (ds : List D) (M : Mem) : (mkDy G T (k + 1)).call "_law_numbers" ds M = gcR M.length (runS (m__law_numbers (mkDy G T k) (startE ["made", "found"] ds) M)) := by
  have h : T.fn ("_law_numbers" : Str) = some f__law_numbers := by kernel_rfl
  show (match T.fn ("_law_numbers" : Str) with
    | some d => runF G (mkDy G T k) d ds M
    | none => .stuck) = _
  rw [h]
  show runF G (mkDy G T k) f__law_numbers ds M = _
  unfold runF
  rw [tr__law_numbers]
  rfl
/-- _law_numbered_right -/
def m__law_numbered_right (Y : Dy) : MS := (mSeq (mSet false 1 (mLst (mConsA false (mIsi (fun k => is_BadPointers.lookup k) (mIdx (mVar 0) (mVal (.int (0))))) (mConsA false (mIsi (fun k => is_BadContract.lookup k) (mIdx (mVar 0) (mVal (.int (1))))) mNil)))) (mSeq (mSet false 1 (mBin .Add (mVar 1) (mLst (mConsA false (mIsi (fun k => is_BadProgram.lookup k) (mIdx (mVar 0) (mVal (.int (2))))) (mConsA false (mIsi (fun k => is_BadCount.lookup k) (mIdx (mVar 0) (mVal (.int (3))))) mNil))))) (mSeq (mSet false 1 (mBin .Add (mVar 1) (mLst (mConsA false (mIsi (fun k => is_NoLine.lookup k) (mIdx (mVar 0) (mVal (.int (4))))) (mConsA false (mIsi (fun k => is_TooMany.lookup k) (mIdx (mVar 0) (mVal (.int (5))))) (mConsA false (mIsi (fun k => is_NoFact.lookup k) (mIdx (mVar 0) (mVal (.int (6))))) mNil)))))) (mSeq (mFor (mIRng1 (mConsA false (mVal (.int (7))) mNil)) (gN 2) (mSeq (mIfS (mNotT (mTru (mCall 2 (Y.call "_law_is_one") (mConsA false (mIdx (mVar 0) (mVar 2)) (mConsA false (mIdx (mVar 1) (mVar 2)) mNil))))) (mSeq (mRet (mVal (.bl false))) mNext) mNext) mNext)) (mSeq (mRet (mVal (.bl true))) mNext)))))
theorem tr__law_numbered_right (Y : Dy) : trS depth (f__law_numbered_right.tc G Y) f__law_numbered_right.body = m__law_numbered_right Y := by kernel_rfl
theorem c__law_numbered_right (k : Nat) (ds : List D) (M : Mem) : (mkDy G T (k + 1)).call "_law_numbered_right" ds M = gcR M.length (runS (m__law_numbered_right (mkDy G T k) (startE ["made", "found", "k"] ds) M)) := by
  have h : T.fn ("_law_numbered_right" : Str) = some f__law_numbered_right := by kernel_rfl
  show (match T.fn ("_law_numbered_right" : Str) with
    | some d => runF G (mkDy G T k) d ds M
    | none => .stuck) = _
  rw [h]
  show runF G (mkDy G T k) f__law_numbered_right ds M = _
  unfold runF
  rw [tr__law_numbered_right]
  rfl
/-- _law_told -/
def m__law_told (Y : Dy) : MS := (mSeq (mRet (mLst (mConsA false (mExo "BadName" false (some "name") (mConsA false (mVar 0) mNil)) (mConsA false (mExo "Taken" true (some "name") (mConsA false (mVar 0) mNil)) (mConsA false (mExo "NoFunction" false (some "name") (mConsA false (mVar 0) mNil)) (mConsA false (mExo "Stuck" false (some "places") (mConsA false (mVar 1) mNil)) (mConsA false (mExo "Parted" false (some "places") (mConsA false (mVar 1) mNil)) mNil))))))) mNext)
theorem tr__law_told (Y : Dy) : trS depth (f__law_told.tc G Y) f__law_told.body = m__law_told Y := by kernel_rfl
theorem c__law_told (k : Nat) (ds : List D) (M : Mem) : (mkDy G T (k + 1)).call "_law_told" ds M = gcR M.length (runS (m__law_told (mkDy G T k) (startE ["text", "places"] ds) M)) := by
  have h : T.fn ("_law_told" : Str) = some f__law_told := by kernel_rfl
  show (match T.fn ("_law_told" : Str) with
    | some d => runF G (mkDy G T k) d ds M
    | none => .stuck) = _
  rw [h]
  show runF G (mkDy G T k) f__law_told ds M = _
  unfold runF
  rw [tr__law_told]
  rfl
/-- _law_told_fields -/
def m__law_told_fields (Y : Dy) : MS := (mSeq (mRet (mLst (mConsA false (mAttrX (okB G) (oxB G) "name" (mIdx (mVar 0) (mVal (.int (0))))) (mConsA false (mAttrX (okB G) (oxB G) "name" (mIdx (mVar 0) (mVal (.int (1))))) (mConsA false (mAttrX (okB G) (oxB G) "name" (mIdx (mVar 0) (mVal (.int (2))))) (mConsA false (mAttrX (okB G) (oxB G) "places" (mIdx (mVar 0) (mVal (.int (3))))) (mConsA false (mAttrX (okB G) (oxB G) "places" (mIdx (mVar 0) (mVal (.int (4))))) mNil))))))) mNext)
theorem tr__law_told_fields (Y : Dy) : trS depth (f__law_told_fields.tc G Y) f__law_told_fields.body = m__law_told_fields Y := by kernel_rfl
theorem c__law_told_fields (k : Nat) (ds : List D) (M : Mem) : (mkDy G T (k + 1)).call "_law_told_fields" ds M = gcR M.length (runS (m__law_told_fields (mkDy G T k) (startE ["made"] ds) M)) := by
  have h : T.fn ("_law_told_fields" : Str) = some f__law_told_fields := by kernel_rfl
  show (match T.fn ("_law_told_fields" : Str) with
    | some d => runF G (mkDy G T k) d ds M
    | none => .stuck) = _
  rw [h]
  show runF G (mkDy G T k) f__law_told_fields ds M = _
  unfold runF
  rw [tr__law_told_fields]
  rfl
/-- _law_told_right -/
def m__law_told_right (Y : Dy) : MS := (mSeq (mSet false 1 (mLst (mConsA false (mIsi (fun k => is_BadName.lookup k) (mIdx (mVar 0) (mVal (.int (0))))) (mConsA false (mIsi (fun k => is_Taken.lookup k) (mIdx (mVar 0) (mVal (.int (1))))) (mConsA false (mIsi (fun k => is_NoFunction.lookup k) (mIdx (mVar 0) (mVal (.int (2))))) mNil))))) (mSeq (mSet false 1 (mBin .Add (mVar 1) (mLst (mConsA false (mIsi (fun k => is_Stuck.lookup k) (mIdx (mVar 0) (mVal (.int (3))))) (mConsA false (mIsi (fun k => is_Parted.lookup k) (mIdx (mVar 0) (mVal (.int (4))))) mNil))))) (mSeq (mFor (mIRng1 (mConsA false (mVal (.int (5))) mNil)) (gN 2) (mSeq (mIfS (mNotT (mTru (mCall 2 (Y.call "_law_is_one") (mConsA false (mIdx (mVar 0) (mVar 2)) (mConsA false (mIdx (mVar 1) (mVar 2)) mNil))))) (mSeq (mRet (mVal (.bl false))) mNext) mNext) mNext)) (mSeq (mRet (mVal (.bl true))) mNext))))
theorem tr__law_told_right (Y : Dy) : trS depth (f__law_told_right.tc G Y) f__law_told_right.body = m__law_told_right Y := by kernel_rfl
theorem c__law_told_right (k : Nat) (ds : List D) (M : Mem) : (mkDy G T (k + 1)).call "_law_told_right" ds M = gcR M.length (runS (m__law_told_right (mkDy G T k) (startE ["made", "found", "k"] ds) M)) := by
  have h : T.fn ("_law_told_right" : Str) = some f__law_told_right := by kernel_rfl
  show (match T.fn ("_law_told_right" : Str) with
    | some d => runF G (mkDy G T k) d ds M
    | none => .stuck) = _
  rw [h]
  show runF G (mkDy G T k) f__law_told_right ds M = _
  unfold runF
  rw [tr__law_told_right]
  rfl
/-- _law_plain_right -/
def m__law_plain_right (Y : Dy) : MS := (mSeq (mAsg (gT 4 (gsCons (gN 0) (gsCons (gN 1) (gsCons (gN 2) (gsCons (gN 3) gsNil))))) (mTup (mConsA false (mExo "BadPlaces" false none mNil) (mConsA false (mExo "OtherPointers" false none mNil) (mConsA false (mExo "HasRegisters" false none mNil) (mConsA false (mExo "NotTwo" false none mNil) mNil)))))) (mSeq (mPar [4, 5] (mConsA false (mExo "Clash" false none mNil) (mConsA false (mExo "NothingToUndo" false none mNil) mNil))) (mSeq (mSet true 6 (mLst (mConsA false (mCall 2 (Y.call "_law_is_one") (mConsA false (mVar 0) (mConsA false (mIsi (fun k => is_BadPlaces.lookup k) (mVar 0)) mNil))) mNil))) (mSeq (mDrop (mMeth (methAlts "append") (ownG Y "append") "append" (mVar 6) (mConsA false (mCall 2 (Y.call "_law_is_one") (mConsA false (mVar 1) (mConsA false (mIsi (fun k => is_OtherPointers.lookup k) (mVar 1)) mNil))) mNil))) (mSeq (mDrop (mMeth (methAlts "append") (ownG Y "append") "append" (mVar 6) (mConsA false (mCall 2 (Y.call "_law_is_one") (mConsA false (mVar 2) (mConsA false (mIsi (fun k => is_HasRegisters.lookup k) (mVar 2)) mNil))) mNil))) (mSeq (mDrop (mMeth (methAlts "append") (ownG Y "append") "append" (mVar 6) (mConsA false (mCall 2 (Y.call "_law_is_one") (mConsA false (mVar 3) (mConsA false (mIsi (fun k => is_NotTwo.lookup k) (mVar 3)) mNil))) mNil))) (mSeq (mDrop (mMeth (methAlts "append") (ownG Y "append") "append" (mVar 6) (mConsA false (mCall 2 (Y.call "_law_is_one") (mConsA false (mVar 4) (mConsA false (mIsi (fun k => is_Clash.lookup k) (mVar 4)) mNil))) mNil))) (mSeq (mDrop (mMeth (methAlts "append") (ownG Y "append") "append" (mVar 6) (mConsA false (mCall 2 (Y.call "_law_is_one") (mConsA false (mVar 5) (mConsA false (mIsi (fun k => is_NothingToUndo.lookup k) (mVar 5)) mNil))) mNil))) (mSeq (mRet (mCmp .NotIn (mVal (.bl false)) (mVar 6))) mNext)))))))))
theorem tr__law_plain_right (Y : Dy) : trS depth (f__law_plain_right.tc G Y) f__law_plain_right.body = m__law_plain_right Y := by kernel_rfl
theorem c__law_plain_right (k : Nat) (ds : List D) (M : Mem) : (mkDy G T (k + 1)).call "_law_plain_right" ds M = gcR M.length (runS (m__law_plain_right (mkDy G T k) (startE ["one", "two", "three", "four", "five", "six", "found"] ds) M)) := by
  have h : T.fn ("_law_plain_right" : Str) = some f__law_plain_right := by kernel_rfl
  show (match T.fn ("_law_plain_right" : Str) with
    | some d => runF G (mkDy G T k) d ds M
    | none => .stuck) = _
  rw [h]
  show runF G (mkDy G T k) f__law_plain_right ds M = _
  unfold runF
  rw [tr__law_plain_right]
  rfl
/-- law -/
def m_law (Y : Dy) : MS := (mSeq (mSet true 1 (mCall 1 (Y.call "_law_begun_pen") (mConsA false (mVar 0) mNil))) (mSeq (mFor (mIRng1 (mConsA false (mVal (.int (3))) mNil)) (gN 2) (mSeq (mSet false 3 (mBin .Sub (mCall 2 (Y.call "_law_draw") (mConsA false (mVar 1) (mConsA false (mBin .Pow (mVal (.int (10))) (mVal (.int (60)))) mNil))) (mCall 2 (Y.call "_law_pick") (mConsA false (mVar 1) (mConsA false (mLst (mConsA false (mVal (.int (0))) (mConsA false (mVal (.int (0))) (mConsA false (mBin .Pow (mVal (.int (10))) (mVal (.int (59)))) mNil)))) mNil))))) (mSeq (mPar [4, 5] (mConsA false (mIdx (mCall 2 (Y.call "_law_new_words") (mConsA false (mVar 1) (mConsA false (mVal (.int (1))) mNil))) (mVal (.int (0)))) (mConsA true (mLst mNil) mNil))) (mSeq (mFor (mIRng1 (mConsA false (mBin .Add (mVal (.int (1))) (mCall 2 (Y.call "_law_draw") (mConsA false (mVar 1) (mConsA false (mVal (.int (3))) mNil)))) mNil)) (gN 6) (mSeq (mDrop (mMeth (methAlts "append") (ownG Y "append") "append" (mVar 5) (mConsA false (mCall 1 (Y.call "_law_far_number") (mConsA false (mVar 1) mNil)) mNil))) mNext)) (mSeq (mPar [7, 8] (mConsA false (mBlt tupleS (mConsA false (mVar 5) mNil)) (mConsA false (mBlt tupleS (mConsA false (mLc (mIAny (mVar 5)) (gN 9) mYes (mA false (mBin .Add (mVar 9) (mVal (.int (1))))) [9]) mNil)) mNil))) (mSeq (mPar [10, 11] (mConsA false (mCall 1 (Y.call "_law_numbered") (mConsA false (mVar 3) mNil)) (mConsA false (mCall 1 (Y.call "_law_numbered") (mConsA false (mBin .Add (mVar 3) (mVal (.int (1)))) mNil)) mNil))) (mSeq (mPar [12, 13] (mConsA false (mCall 2 (Y.call "_law_told") (mConsA false (mVar 4) (mConsA false (mVar 7) mNil))) (mConsA false (mCall 2 (Y.call "_law_told") (mConsA false (mBin .Add (mVal (.str "x")) (mVar 4)) (mConsA false (mVar 8) mNil))) mNil))) (mSeq (mIfS (mBl (mCmp .NotEq (mBlt reprS (mConsA false (mCall 1 (Y.call "_law_numbers") (mConsA false (mVar 10) mNil)) mNil)) (mBlt reprS (mConsA false (mBin .Mult (mLst (mConsA false (mVar 3) mNil)) (mVal (.int (7)))) mNil)))) (mSeq (mRet (mVal (.bl false))) mNext) mNext) (mSeq (mIfS (mBl (mCmp .NotEq (mBlt reprS (mConsA false (mCall 1 (Y.call "_law_numbers") (mConsA false (mVar 11) mNil)) mNil)) (mBlt reprS (mConsA false (mBin .Mult (mLst (mConsA false (mBin .Add (mVar 3) (mVal (.int (1)))) mNil)) (mVal (.int (7)))) mNil)))) (mSeq (mRet (mVal (.bl false))) mNext) mNext) (mSeq (mIfS (mBl (mCmp .NotEq (mBlt reprS (mConsA false (mCall 1 (Y.call "_law_told_fields") (mConsA false (mVar 12) mNil)) mNil)) (mBlt reprS (mConsA false (mBin .Add (mBin .Mult (mLst (mConsA false (mVar 4) mNil)) (mVal (.int (3)))) (mBin .Mult (mLst (mConsA false (mVar 7) mNil)) (mVal (.int (2))))) mNil)))) (mSeq (mRet (mVal (.bl false))) mNext) mNext) (mSeq (mIfS (mBl (mCmp .NotEq (mBlt reprS (mConsA false (mCall 1 (Y.call "_law_told_fields") (mConsA false (mVar 13) mNil)) mNil)) (mBlt reprS (mConsA false (mBin .Add (mBin .Mult (mLst (mConsA false (mBin .Add (mVal (.str "x")) (mVar 4)) mNil)) (mVal (.int (3)))) (mBin .Mult (mLst (mConsA false (mVar 8) mNil)) (mVal (.int (2))))) mNil)))) (mSeq (mRet (mVal (.bl false))) mNext) mNext) (mSeq (mIfS (mOrT (mNotT (mTru (mCall 1 (Y.call "_law_numbered_right") (mConsA false (mVar 10) mNil)))) (mOrT (mNotT (mTru (mCall 1 (Y.call "_law_told_right") (mConsA false (mVar 12) mNil)))) (mNotT (mTru (mCall 0 (Y.call "_law_plain_right") mNil))))) (mSeq (mRet (mVal (.bl false))) mNext) mNext) mNext)))))))))))) (mSeq (mRet (mVal (.bl true))) mNext)))
theorem tr_law (Y : Dy) : trS depth (f_law.tc G Y) f_law.body = m_law Y := by kernel_rfl
theorem c_law (k : Nat) (ds : List D) (M : Mem) : (mkDy G T (k + 1)).call "law" ds M = gcR M.length (runS (m_law (mkDy G T k) (startE ["script", "pen", "turn", "number", "text", "places", "k", "row", "away", "place", "made", "others", "told", "moved"] ds) M)) := by
  have h : T.fn ("law" : Str) = some f_law := by kernel_rfl
  show (match T.fn ("law" : Str) with
    | some d => runF G (mkDy G T k) d ds M
    | none => .stuck) = _
  rw [h]
  show runF G (mkDy G T k) f_law ds M = _
  unfold runF
  rw [tr_law]
  rfl
end Pc

set_option Elab.async false
set_option linter.all false
set_option maxRecDepth 100000
set_option maxHeartbeats 2000000
set_option autoImplicit false
/-! Kp2: the law's parts about errors -/
namespace Pc
open PySem PySem.Spec PyProof.Rows L2
section
variable {M : Mem} {xs ys : List D} {e : Sl} {ms : MDs} {own : OwnM} {nm : Str}
theorem at_cat (o : MO) : (M ++ [o])[M.length]? = some o := by simp
theorem add_cat (h : xs.length + ys.length ≤ sizeLine) : binS .Add (.ref M.length) (.lst ys) (M ++ [.lst xs]) = .ok (.own (.lst (xs ++ ys))) (M ++ [.lst xs]) := by
  show catL (.ref M.length) (.lst ys) (M ++ [.lst xs]) = _
  unfold catL
  simp only [seqL, at_cat]
  rw [if_pos h]
theorem meK_cat (f : D → List D → Mem → R RV) : meK [("list", f)] own nm ms e (.ref M.length) (M ++ [.lst xs]) = (ms e (M ++ [.lst xs])).bind fun ds M2 => f (.ref M.length) ds M2 := meK_ref f own nm M.length xs (at_cat _)
theorem app_cat {d : D} (h : xs.length < sizeLine) : appendS (.ref M.length) [d] (M ++ [.lst xs]) = .ok (.val .non) (M ++ [.lst (xs ++ [d])]) := by
  unfold appendS
  simp only [at_cat]
  rw [if_pos h]
  simp [vN]
theorem any_cat : anyI (.ref M.length) (M ++ [.lst xs]) = .ok (xs.length, gSeq (.ref M.length)) (M ++ [.lst xs]) := by
  unfold anyI
  simp only [seqA, seqL, at_cat]
theorem g_cat (k : Nat) : gSeq (.ref M.length) (M ++ [.lst xs]) k = some xs[k]? := by
  unfold gSeq
  simp only [seqA, seqL, at_cat]
theorem al_t' (o : MO) : alD true (.ok (.own o) M) = .ok (.ref M.length) (M ++ [o]) := rfl
theorem isiK_e {t : Kd → Option Bool} {c : Str} {ns : List Str} {ds : List D} : isiK t (.exo c ns ds) M = (match t (8, c) with
  | some b => .ok (.val (.bl b)) M
  | none => .stuck) := by
  unfold isiK
  show (match (some ((8 : Nat), c)).bind t with
    | some b => R.ok (RV.val (D.bl b)) M
    | none => .stuck) = _
  rw [Option.bind_some]
def blP : D → Bool
  | .bl b => b
  | _ => false
theorem lc_bl {a0 a1 a2 : Option D} (bs : List Bool) (h : bs.length ≤ 1000) : lcL (gSeq (.ref M.length)) (gN 2) (mTru (mVar 2)) (mA false (mVar 2)) [2] [a0, a1, a2] (bs.map D.bl).length 0 (M ++ [.lst (bs.map D.bl)]) [] = .ok ((bs.filter id).map D.bl) (M ++ [.lst (bs.map D.bl)]) := by
  rw [lc_pure (bs.map D.bl) blP id g_cat (by rw [List.length_map, sizeLine_eq]; omega)]
  · congr 1
    rw [List.map_id, List.filter_map]
    rfl
  · intro d hd
    obtain ⟨b, _, rfl⟩ := List.mem_map.mp hd
    exact ⟨[(2, .bl b)], rfl, rfl, rfl, fun _ => rfl⟩
end
/-- nothing in it names a place of the memory -/
def Cl (M : Mem) : Prop := ∀ o ∈ M, ∀ n, clO n o = true
theorem Cl.all {M : Mem} (h : Cl M) (n : Nat) : M.all (clO n) = true := List.all_eq_true.mpr fun o ho => h o ho n
theorem Cl.add {M : Mem} {o : MO} (h : Cl M) (h2 : ∀ n, clO n o = true) : Cl (M ++ [o]) := fun x hx => (List.mem_append.mp hx).elim (h x) fun z => by rw [List.mem_singleton.mp z]; exact h2
theorem gc_drop {M r : Mem} {d : D} (h : Cl M) (hd : clD M.length d = true) : gcR M.length (.ok (.val d) (M ++ r)) = .ok (.val d) M := by
  unfold gcR
  dsimp only
  rw [List.take_left, if_pos (h.all _), if_pos hd]
theorem gc_dropO {M r : Mem} {o : MO} (h : Cl M) (hd : clO M.length o = true) : gcR M.length (.ok (.own o) (M ++ r)) = .ok (.own o) M := by
  unfold gcR
  dsimp only
  rw [List.take_left, if_pos (h.all _), if_pos hd]
/-- an error's class, as the law asks for it -/
structure Err (c : Str) where
  b0 : Bool
  h0 : is_BadContract.lookup (8, c) = some b0
  b1 : Bool
  h1 : is_BadCount.lookup (8, c) = some b1
  b2 : Bool
  h2 : is_BadName.lookup (8, c) = some b2
  b3 : Bool
  h3 : is_BadPlaces.lookup (8, c) = some b3
  b4 : Bool
  h4 : is_BadPointers.lookup (8, c) = some b4
  b5 : Bool
  h5 : is_BadProgram.lookup (8, c) = some b5
  b6 : Bool
  h6 : is_Clash.lookup (8, c) = some b6
  b7 : Bool
  h7 : is_HasRegisters.lookup (8, c) = some b7
  b8 : Bool
  h8 : is_NoFact.lookup (8, c) = some b8
  b9 : Bool
  h9 : is_NoFunction.lookup (8, c) = some b9
  b10 : Bool
  h10 : is_NoLine.lookup (8, c) = some b10
  b11 : Bool
  h11 : is_NotTwo.lookup (8, c) = some b11
  b12 : Bool
  h12 : is_NothingToUndo.lookup (8, c) = some b12
  b13 : Bool
  h13 : is_OtherPointers.lookup (8, c) = some b13
  b14 : Bool
  h14 : is_Parted.lookup (8, c) = some b14
  b15 : Bool
  h15 : is_Stuck.lookup (8, c) = some b15
  b16 : Bool
  h16 : is_Taken.lookup (8, c) = some b16
  b17 : Bool
  h17 : is_TooMany.lookup (8, c) = some b17
  p : is_PartlyError.lookup (8, c) = some true
  v : is_ValueError.lookup (8, c) = some true
  one : ([b0, b1, b2, b3, b4, b5, b6, b7, b8, b9, b10, b11, b12, b13, b14, b15, b16, b17].filter id).length = 1
def e_BadContract : Err "BadContract" := ⟨true, by kernel_rfl, false, by kernel_rfl, false, by kernel_rfl, false, by kernel_rfl, false, by kernel_rfl, false, by kernel_rfl, false, by kernel_rfl, false, by kernel_rfl, false, by kernel_rfl, false, by kernel_rfl, false, by kernel_rfl, false, by kernel_rfl, false, by kernel_rfl, false, by kernel_rfl, false, by kernel_rfl, false, by kernel_rfl, false, by kernel_rfl, false, by kernel_rfl, by kernel_rfl, by kernel_rfl, by decide⟩
def e_BadCount : Err "BadCount" := ⟨false, by kernel_rfl, true, by kernel_rfl, false, by kernel_rfl, false, by kernel_rfl, false, by kernel_rfl, false, by kernel_rfl, false, by kernel_rfl, false, by kernel_rfl, false, by kernel_rfl, false, by kernel_rfl, false, by kernel_rfl, false, by kernel_rfl, false, by kernel_rfl, false, by kernel_rfl, false, by kernel_rfl, false, by kernel_rfl, false, by kernel_rfl, false, by kernel_rfl, by kernel_rfl, by kernel_rfl, by decide⟩
def e_BadName : Err "BadName" := ⟨false, by kernel_rfl, false, by kernel_rfl, true, by kernel_rfl, false, by kernel_rfl, false, by kernel_rfl, false, by kernel_rfl, false, by kernel_rfl, false, by kernel_rfl, false, by kernel_rfl, false, by kernel_rfl, false, by kernel_rfl, false, by kernel_rfl, false, by kernel_rfl, false, by kernel_rfl, false, by kernel_rfl, false, by kernel_rfl, false, by kernel_rfl, false, by kernel_rfl, by kernel_rfl, by kernel_rfl, by decide⟩
def e_BadPlaces : Err "BadPlaces" := ⟨false, by kernel_rfl, false, by kernel_rfl, false, by kernel_rfl, true, by kernel_rfl, false, by kernel_rfl, false, by kernel_rfl, false, by kernel_rfl, false, by kernel_rfl, false, by kernel_rfl, false, by kernel_rfl, false, by kernel_rfl, false, by kernel_rfl, false, by kernel_rfl, false, by kernel_rfl, false, by kernel_rfl, false, by kernel_rfl, false, by kernel_rfl, false, by kernel_rfl, by kernel_rfl, by kernel_rfl, by decide⟩
def e_BadPointers : Err "BadPointers" := ⟨false, by kernel_rfl, false, by kernel_rfl, false, by kernel_rfl, false, by kernel_rfl, true, by kernel_rfl, false, by kernel_rfl, false, by kernel_rfl, false, by kernel_rfl, false, by kernel_rfl, false, by kernel_rfl, false, by kernel_rfl, false, by kernel_rfl, false, by kernel_rfl, false, by kernel_rfl, false, by kernel_rfl, false, by kernel_rfl, false, by kernel_rfl, false, by kernel_rfl, by kernel_rfl, by kernel_rfl, by decide⟩
def e_BadProgram : Err "BadProgram" := ⟨false, by kernel_rfl, false, by kernel_rfl, false, by kernel_rfl, false, by kernel_rfl, false, by kernel_rfl, true, by kernel_rfl, false, by kernel_rfl, false, by kernel_rfl, false, by kernel_rfl, false, by kernel_rfl, false, by kernel_rfl, false, by kernel_rfl, false, by kernel_rfl, false, by kernel_rfl, false, by kernel_rfl, false, by kernel_rfl, false, by kernel_rfl, false, by kernel_rfl, by kernel_rfl, by kernel_rfl, by decide⟩
def e_Clash : Err "Clash" := ⟨false, by kernel_rfl, false, by kernel_rfl, false, by kernel_rfl, false, by kernel_rfl, false, by kernel_rfl, false, by kernel_rfl, true, by kernel_rfl, false, by kernel_rfl, false, by kernel_rfl, false, by kernel_rfl, false, by kernel_rfl, false, by kernel_rfl, false, by kernel_rfl, false, by kernel_rfl, false, by kernel_rfl, false, by kernel_rfl, false, by kernel_rfl, false, by kernel_rfl, by kernel_rfl, by kernel_rfl, by decide⟩
def e_HasRegisters : Err "HasRegisters" := ⟨false, by kernel_rfl, false, by kernel_rfl, false, by kernel_rfl, false, by kernel_rfl, false, by kernel_rfl, false, by kernel_rfl, false, by kernel_rfl, true, by kernel_rfl, false, by kernel_rfl, false, by kernel_rfl, false, by kernel_rfl, false, by kernel_rfl, false, by kernel_rfl, false, by kernel_rfl, false, by kernel_rfl, false, by kernel_rfl, false, by kernel_rfl, false, by kernel_rfl, by kernel_rfl, by kernel_rfl, by decide⟩
def e_NoFact : Err "NoFact" := ⟨false, by kernel_rfl, false, by kernel_rfl, false, by kernel_rfl, false, by kernel_rfl, false, by kernel_rfl, false, by kernel_rfl, false, by kernel_rfl, false, by kernel_rfl, true, by kernel_rfl, false, by kernel_rfl, false, by kernel_rfl, false, by kernel_rfl, false, by kernel_rfl, false, by kernel_rfl, false, by kernel_rfl, false, by kernel_rfl, false, by kernel_rfl, false, by kernel_rfl, by kernel_rfl, by kernel_rfl, by decide⟩
def e_NoFunction : Err "NoFunction" := ⟨false, by kernel_rfl, false, by kernel_rfl, false, by kernel_rfl, false, by kernel_rfl, false, by kernel_rfl, false, by kernel_rfl, false, by kernel_rfl, false, by kernel_rfl, false, by kernel_rfl, true, by kernel_rfl, false, by kernel_rfl, false, by kernel_rfl, false, by kernel_rfl, false, by kernel_rfl, false, by kernel_rfl, false, by kernel_rfl, false, by kernel_rfl, false, by kernel_rfl, by kernel_rfl, by kernel_rfl, by decide⟩
def e_NoLine : Err "NoLine" := ⟨false, by kernel_rfl, false, by kernel_rfl, false, by kernel_rfl, false, by kernel_rfl, false, by kernel_rfl, false, by kernel_rfl, false, by kernel_rfl, false, by kernel_rfl, false, by kernel_rfl, false, by kernel_rfl, true, by kernel_rfl, false, by kernel_rfl, false, by kernel_rfl, false, by kernel_rfl, false, by kernel_rfl, false, by kernel_rfl, false, by kernel_rfl, false, by kernel_rfl, by kernel_rfl, by kernel_rfl, by decide⟩
def e_NotTwo : Err "NotTwo" := ⟨false, by kernel_rfl, false, by kernel_rfl, false, by kernel_rfl, false, by kernel_rfl, false, by kernel_rfl, false, by kernel_rfl, false, by kernel_rfl, false, by kernel_rfl, false, by kernel_rfl, false, by kernel_rfl, false, by kernel_rfl, true, by kernel_rfl, false, by kernel_rfl, false, by kernel_rfl, false, by kernel_rfl, false, by kernel_rfl, false, by kernel_rfl, false, by kernel_rfl, by kernel_rfl, by kernel_rfl, by decide⟩
def e_NothingToUndo : Err "NothingToUndo" := ⟨false, by kernel_rfl, false, by kernel_rfl, false, by kernel_rfl, false, by kernel_rfl, false, by kernel_rfl, false, by kernel_rfl, false, by kernel_rfl, false, by kernel_rfl, false, by kernel_rfl, false, by kernel_rfl, false, by kernel_rfl, false, by kernel_rfl, true, by kernel_rfl, false, by kernel_rfl, false, by kernel_rfl, false, by kernel_rfl, false, by kernel_rfl, false, by kernel_rfl, by kernel_rfl, by kernel_rfl, by decide⟩
def e_OtherPointers : Err "OtherPointers" := ⟨false, by kernel_rfl, false, by kernel_rfl, false, by kernel_rfl, false, by kernel_rfl, false, by kernel_rfl, false, by kernel_rfl, false, by kernel_rfl, false, by kernel_rfl, false, by kernel_rfl, false, by kernel_rfl, false, by kernel_rfl, false, by kernel_rfl, false, by kernel_rfl, true, by kernel_rfl, false, by kernel_rfl, false, by kernel_rfl, false, by kernel_rfl, false, by kernel_rfl, by kernel_rfl, by kernel_rfl, by decide⟩
def e_Parted : Err "Parted" := ⟨false, by kernel_rfl, false, by kernel_rfl, false, by kernel_rfl, false, by kernel_rfl, false, by kernel_rfl, false, by kernel_rfl, false, by kernel_rfl, false, by kernel_rfl, false, by kernel_rfl, false, by kernel_rfl, false, by kernel_rfl, false, by kernel_rfl, false, by kernel_rfl, false, by kernel_rfl, true, by kernel_rfl, false, by kernel_rfl, false, by kernel_rfl, false, by kernel_rfl, by kernel_rfl, by kernel_rfl, by decide⟩
def e_Stuck : Err "Stuck" := ⟨false, by kernel_rfl, false, by kernel_rfl, false, by kernel_rfl, false, by kernel_rfl, false, by kernel_rfl, false, by kernel_rfl, false, by kernel_rfl, false, by kernel_rfl, false, by kernel_rfl, false, by kernel_rfl, false, by kernel_rfl, false, by kernel_rfl, false, by kernel_rfl, false, by kernel_rfl, false, by kernel_rfl, true, by kernel_rfl, false, by kernel_rfl, false, by kernel_rfl, by kernel_rfl, by kernel_rfl, by decide⟩
def e_Taken : Err "Taken" := ⟨false, by kernel_rfl, false, by kernel_rfl, false, by kernel_rfl, false, by kernel_rfl, false, by kernel_rfl, false, by kernel_rfl, false, by kernel_rfl, false, by kernel_rfl, false, by kernel_rfl, false, by kernel_rfl, false, by kernel_rfl, false, by kernel_rfl, false, by kernel_rfl, false, by kernel_rfl, false, by kernel_rfl, false, by kernel_rfl, true, by kernel_rfl, false, by kernel_rfl, by kernel_rfl, by kernel_rfl, by decide⟩
def e_TooMany : Err "TooMany" := ⟨false, by kernel_rfl, false, by kernel_rfl, false, by kernel_rfl, false, by kernel_rfl, false, by kernel_rfl, false, by kernel_rfl, false, by kernel_rfl, false, by kernel_rfl, false, by kernel_rfl, false, by kernel_rfl, false, by kernel_rfl, false, by kernel_rfl, false, by kernel_rfl, false, by kernel_rfl, false, by kernel_rfl, false, by kernel_rfl, false, by kernel_rfl, true, by kernel_rfl, by kernel_rfl, by kernel_rfl, by decide⟩
section
variable {M : Mem} {c : Str} {ns : List Str} {ds : List D}
theorem sp_classes (k : Nat) (E : Err c) (hM : Cl M) : (mkDy G T (k + 1)).call "_law_classes" [.exo c ns ds] M = .ok (.val (.int 1)) M := by
  have sz : ∀ n : Nat, n ≤ 1000 → (n ≤ sizeLine) = True := fun n hn => by rw [sizeLine_eq]; simp; omega
  have sz' : ∀ n : Nat, n ≤ 1000 → (n < sizeLine) = True := fun n hn => by rw [sizeLine_eq]; simp; omega
  have L := fun (M1 : Mem) (a0 a1 a2 : Option D) => lc_bl (M := M1) (a0 := a0) (a1 := a1) (a2 := a2) [E.b0, E.b1, E.b2, E.b3, E.b4, E.b5, E.b6, E.b7, E.b8, E.b9, E.b10, E.b11, E.b12, E.b13, E.b14, E.b15, E.b16, E.b17] (by show (18 : Nat) ≤ 1000; decide)
  simp only [List.map_cons, List.map_nil, List.length_cons, List.length_nil, Nat.reduceAdd] at L
  rw [c__law_classes]
  unfold m__law_classes
  simp only [bind_ok, map_ok, toS_ok, seq_nx, seq_rt, runS_nx, runS_rt, noX_ok, d_val, d_own, al_val, al_f, e_seq, e_next, e_ret, e_retN, e_ifS, e_set, e_drop, e_A, e_D, e_val, e_var0, e_varS, e_nil, e_cons, e_cmp, e_bin, e_blt, e_call, e_bl, blK_b, e_tru, trK_b, e_notT, e_andT, e_orT, e_and, andK_b, e_or, orK_b, e_not, notK_b, e_neg, negK_i, e_if, e_chain, chK_b, e_tup, e_lst, e_idx, e_attr, e_slice, e_noP, e_partE, ptK2_i, e_star, starK_lst, starK_tup, e_meth, ma_join, ma_split, ma_append, ma_pop, ma_index, meK_str, meK_lst, sl_tup, sl_lst, e_lc, e_for, e_iany, e_ienu, e_par, e_asg, e_sub, e_fld, stK_s, eq_int, ne_int, eq_str, ne_str, sOk_lit, sOk_numS, lt_int, le_int, gt_int, ge_int, in_sign, is_non, isNot_non, is_tup, isNot_tup, is_int, isNot_int, len_tup, len_ctup, len_lst, add_int, sub_int, int_int, abs_int, tuple_lst, tuple_tup, list_lst, list_tup, all_bls, o_lst, any_str, any_tup, any_lst, enu_tup, enu_lst, startE, List.map_cons, List.map_nil, List.length_cons, List.length_nil, List.replicate, List.nil_append, List.cons_append, List.set_cons_zero, List.set_cons_succ, Nat.reduceAdd, Nat.reduceSub, if_true, if_false, Bool.false_eq_true, ite_true, ite_false, sz0, sz1, sz2, sz3, sz4, sz5, sz6, sz7, sz8, sz9, ix_tup0, ix_tup1, ix_tup2, ix_tup3, ix_tup4, ix_tup5, ix_lst0, ix_lst1, ix_lst2, ix_lst3, ix_lst4, ix_lst5, ix_ctup0, ix_ctup1, ix_ctup2, ix_ctup3, ix_ctup4, ix_ctup5, e_isi, isiK_e, E.h0, E.h1, E.h2, E.h3, E.h4, E.h5, E.h6, E.h7, E.h8, E.h9, E.h10, E.h11, E.h12, E.h13, E.h14, E.h15, E.h16, E.h17, al_t', add_cat, meK_cat, app_cat, any_cat, sz, sz', Nat.reduceLeDiff, L]
  rw [List.length_map, E.one]
  simp only [List.append_assoc]
  exact gc_drop hM rfl
theorem sp_is_one (k : Nat) (E : Err c) (hM : Cl M) : (mkDy G T (k + 2)).call "_law_is_one" [.exo c ns ds, .bl true] M = .ok (.val (.bl true)) M := by
  rw [c__law_is_one]
  unfold m__law_is_one
  simp only [bind_ok, map_ok, toS_ok, seq_nx, seq_rt, runS_nx, runS_rt, noX_ok, d_val, d_own, al_val, al_f, e_seq, e_next, e_ret, e_retN, e_ifS, e_set, e_drop, e_A, e_D, e_val, e_var0, e_varS, e_nil, e_cons, e_cmp, e_bin, e_blt, e_call, e_bl, blK_b, e_tru, trK_b, e_notT, e_andT, e_orT, e_and, andK_b, e_or, orK_b, e_not, notK_b, e_neg, negK_i, e_if, e_chain, chK_b, e_tup, e_lst, e_idx, e_attr, e_slice, e_noP, e_partE, ptK2_i, e_star, starK_lst, starK_tup, e_meth, ma_join, ma_split, ma_append, ma_pop, ma_index, meK_str, meK_lst, sl_tup, sl_lst, e_lc, e_for, e_iany, e_ienu, e_par, e_asg, e_sub, e_fld, stK_s, eq_int, ne_int, eq_str, ne_str, sOk_lit, sOk_numS, lt_int, le_int, gt_int, ge_int, in_sign, is_non, isNot_non, is_tup, isNot_tup, is_int, isNot_int, len_tup, len_ctup, len_lst, add_int, sub_int, int_int, abs_int, tuple_lst, tuple_tup, list_lst, list_tup, all_bls, o_lst, any_str, any_tup, any_lst, enu_tup, enu_lst, startE, List.map_cons, List.map_nil, List.length_cons, List.length_nil, List.replicate, List.nil_append, List.cons_append, List.set_cons_zero, List.set_cons_succ, Nat.reduceAdd, Nat.reduceSub, if_true, if_false, Bool.false_eq_true, ite_true, ite_false, sz0, sz1, sz2, sz3, sz4, sz5, sz6, sz7, sz8, sz9, ix_tup0, ix_tup1, ix_tup2, ix_tup3, ix_tup4, ix_tup5, ix_lst0, ix_lst1, ix_lst2, ix_lst3, ix_lst4, ix_lst5, ix_ctup0, ix_ctup1, ix_ctup2, ix_ctup3, ix_ctup4, ix_ctup5, e_isi, isiK_e, E.p, E.v, sp_classes k E hM, beq_self_eq_true, gc_same]
end
end Pc

set_option Elab.async false
set_option linter.all false
set_option maxRecDepth 100000
set_option maxHeartbeats 2000000
set_option autoImplicit false
/-! Kp3: made errors, their fields -/
namespace Pc
open PySem PySem.Spec PyProof.Rows L2
def madeN (n : Int) : D := .lst [.exo "BadPointers" ["index"] [.int n], .exo "BadContract" ["line"] [.int n], .exo "BadProgram" ["line"] [.int n], .exo "BadCount" ["count"] [.int n], .exo "NoLine" ["line"] [.int n], .exo "TooMany" ["limit"] [.int n], .exo "NoFact" ["index"] [.int n]]
def madeT (t : Str) (r : D) : D := .lst [.exo "BadName" ["name"] [.str t], .exo "Taken" ["name"] [.str t], .exo "NoFunction" ["name"] [.str t], .exo "Stuck" ["places"] [r], .exo "Parted" ["places"] [r]]
section
variable {M : Mem} {n : Int} {t : Str}
theorem mkE {c f : Str} {fm : Bool} {d : D} (h : fm = true → fmD d = true) : mkExo c fm (some f) [d] M = .ok (.val (.exo c [f] [d])) M := mkExo_one h
theorem mkE_f {c f : Str} {d : D} : mkExo c false (some f) [d] M = .ok (.val (.exo c [f] [d])) M := mkExo_one (fun z => by cases z)
theorem mkE_i {c f : Str} (h : n.natAbs.log2 < 1920) : mkExo c true (some f) [.int n] M = .ok (.val (.exo c [f] [.int n])) M := mkExo_one (fun _ => decide_eq_true h)
theorem mkE_s {c f : Str} (h : t.length ≤ 1900) : mkExo c true (some f) [.str t] M = .ok (.val (.exo c [f] [.str t])) M := mkExo_one (fun _ => decide_eq_true h)
theorem mkE_0 {c : Str} {fm : Bool} : mkExo c fm none [] M = .ok (.val (.exo c [] [])) M := rfl
theorem add_lst {xs ys : List D} (h : xs.length + ys.length ≤ sizeLine) : binS .Add (.lst xs) (.lst ys) M = .ok (.own (.lst (xs ++ ys))) M := by
  show catL (.lst xs) (.lst ys) M = _
  unfold catL
  simp only [seqL]
  rw [if_pos h]
theorem sp_numbered (k : Nat) (h : n.natAbs.log2 < 1920) : (mkDy G T (k + 1)).call "_law_numbered" [.int n] M = gcR M.length (.ok (.own (.lst [.exo "BadPointers" ["index"] [.int n], .exo "BadContract" ["line"] [.int n], .exo "BadProgram" ["line"] [.int n], .exo "BadCount" ["count"] [.int n], .exo "NoLine" ["line"] [.int n], .exo "TooMany" ["limit"] [.int n], .exo "NoFact" ["index"] [.int n]])) M) := by
  have sz : ∀ n : Nat, n ≤ 1000 → (n ≤ sizeLine) = True := fun n hn => by rw [sizeLine_eq]; simp; omega
  rw [c__law_numbered]
  unfold m__law_numbered
  simp only [bind_ok, map_ok, toS_ok, seq_nx, seq_rt, runS_nx, runS_rt, noX_ok, d_val, d_own, al_val, al_f, e_seq, e_next, e_ret, e_retN, e_ifS, e_set, e_drop, e_A, e_D, e_val, e_var0, e_varS, e_nil, e_cons, e_cmp, e_bin, e_blt, e_call, e_bl, blK_b, e_tru, trK_b, e_notT, e_andT, e_orT, e_and, andK_b, e_or, orK_b, e_not, notK_b, e_neg, negK_i, e_if, e_chain, chK_b, e_tup, e_lst, e_idx, e_attr, e_slice, e_noP, e_partE, ptK2_i, e_star, starK_lst, starK_tup, e_meth, ma_join, ma_split, ma_append, ma_pop, ma_index, meK_str, meK_lst, sl_tup, sl_lst, e_lc, e_for, e_iany, e_ienu, e_par, e_asg, e_sub, e_fld, stK_s, eq_int, ne_int, eq_str, ne_str, sOk_lit, sOk_numS, lt_int, le_int, gt_int, ge_int, in_sign, is_non, isNot_non, is_tup, isNot_tup, is_int, isNot_int, len_tup, len_ctup, len_lst, add_int, sub_int, int_int, abs_int, tuple_lst, tuple_tup, list_lst, list_tup, all_bls, o_lst, any_str, any_tup, any_lst, enu_tup, enu_lst, startE, List.map_cons, List.map_nil, List.length_cons, List.length_nil, List.replicate, List.nil_append, List.cons_append, List.set_cons_zero, List.set_cons_succ, Nat.reduceAdd, Nat.reduceSub, if_true, if_false, Bool.false_eq_true, ite_true, ite_false, sz0, sz1, sz2, sz3, sz4, sz5, sz6, sz7, sz8, sz9, ix_tup0, ix_tup1, ix_tup2, ix_tup3, ix_tup4, ix_tup5, ix_lst0, ix_lst1, ix_lst2, ix_lst3, ix_lst4, ix_lst5, ix_ctup0, ix_ctup1, ix_ctup2, ix_ctup3, ix_ctup4, ix_ctup5, e_exo, mkE_i h, mkE_f, add_lst, sz, Nat.reduceLeDiff]
theorem sp_told (k : Nat) (r : D) (h : t.length ≤ 1900) : (mkDy G T (k + 1)).call "_law_told" [.str t, r] M = gcR M.length (.ok (.own (.lst [.exo "BadName" ["name"] [.str t], .exo "Taken" ["name"] [.str t], .exo "NoFunction" ["name"] [.str t], .exo "Stuck" ["places"] [r], .exo "Parted" ["places"] [r]])) M) := by
  rw [c__law_told]
  unfold m__law_told
  simp only [bind_ok, map_ok, toS_ok, seq_nx, seq_rt, runS_nx, runS_rt, noX_ok, d_val, d_own, al_val, al_f, e_seq, e_next, e_ret, e_retN, e_ifS, e_set, e_drop, e_A, e_D, e_val, e_var0, e_varS, e_nil, e_cons, e_cmp, e_bin, e_blt, e_call, e_bl, blK_b, e_tru, trK_b, e_notT, e_andT, e_orT, e_and, andK_b, e_or, orK_b, e_not, notK_b, e_neg, negK_i, e_if, e_chain, chK_b, e_tup, e_lst, e_idx, e_attr, e_slice, e_noP, e_partE, ptK2_i, e_star, starK_lst, starK_tup, e_meth, ma_join, ma_split, ma_append, ma_pop, ma_index, meK_str, meK_lst, sl_tup, sl_lst, e_lc, e_for, e_iany, e_ienu, e_par, e_asg, e_sub, e_fld, stK_s, eq_int, ne_int, eq_str, ne_str, sOk_lit, sOk_numS, lt_int, le_int, gt_int, ge_int, in_sign, is_non, isNot_non, is_tup, isNot_tup, is_int, isNot_int, len_tup, len_ctup, len_lst, add_int, sub_int, int_int, abs_int, tuple_lst, tuple_tup, list_lst, list_tup, all_bls, o_lst, any_str, any_tup, any_lst, enu_tup, enu_lst, startE, List.map_cons, List.map_nil, List.length_cons, List.length_nil, List.replicate, List.nil_append, List.cons_append, List.set_cons_zero, List.set_cons_succ, Nat.reduceAdd, Nat.reduceSub, if_true, if_false, Bool.false_eq_true, ite_true, ite_false, sz0, sz1, sz2, sz3, sz4, sz5, sz6, sz7, sz8, sz9, ix_tup0, ix_tup1, ix_tup2, ix_tup3, ix_tup4, ix_tup5, ix_lst0, ix_lst1, ix_lst2, ix_lst3, ix_lst4, ix_lst5, ix_ctup0, ix_ctup1, ix_ctup2, ix_ctup3, ix_ctup4, ix_ctup5, e_exo, mkE_s h, mkE_f]
theorem at_x {c f : Str} {d : D} (h : oxB G c f = true) : attrX (okB G) (oxB G) f (.exo c [f] [d]) M = .ok (.val d) M := by
  unfold attrX
  dsimp only
  rw [if_pos h]
  show oV (if f = f then some d else lookD [] [] f) M = _
  rw [if_pos rfl]
  rfl
theorem x1 : oxB G "BadPointers" "index" = true := by kernel_rfl
theorem x2 : oxB G "BadContract" "line" = true := by kernel_rfl
theorem x3 : oxB G "BadProgram" "line" = true := by kernel_rfl
theorem x4 : oxB G "BadCount" "count" = true := by kernel_rfl
theorem x5 : oxB G "NoLine" "line" = true := by kernel_rfl
theorem x6 : oxB G "TooMany" "limit" = true := by kernel_rfl
theorem x7 : oxB G "NoFact" "index" = true := by kernel_rfl
theorem y1 : oxB G "BadName" "name" = true := by kernel_rfl
theorem y2 : oxB G "Taken" "name" = true := by kernel_rfl
theorem y3 : oxB G "NoFunction" "name" = true := by kernel_rfl
theorem y4 : oxB G "Stuck" "places" = true := by kernel_rfl
theorem y5 : oxB G "Parted" "places" = true := by kernel_rfl
theorem ix_lst6 {a b c d e f g : D} {r : List D} : idxS (.lst (a :: b :: c :: d :: e :: f :: g :: r)) (.int 6) M = .ok (.val g) M := by
  have h : atI (a :: b :: c :: d :: e :: f :: g :: r) (6 : Int) = some g := by
    unfold atI ixN
    rw [if_pos (by decide), if_pos (by simp only [List.length_cons]; omega)]
    rfl
  show oV (atI (a :: b :: c :: d :: e :: f :: g :: r) 6) M = _
  rw [h]
  rfl
theorem sp_numbers (k : Nat) : (mkDy G T (k + 1)).call "_law_numbers" [madeN n] M = gcR M.length (.ok (.own (.lst [.int n, .int n, .int n, .int n, .int n, .int n, .int n])) M) := by
  have sz : ∀ n : Nat, n ≤ 1000 → (n ≤ sizeLine) = True := fun n hn => by rw [sizeLine_eq]; simp; omega
  rw [c__law_numbers]
  unfold m__law_numbers madeN
  simp only [bind_ok, map_ok, toS_ok, seq_nx, seq_rt, runS_nx, runS_rt, noX_ok, d_val, d_own, al_val, al_f, e_seq, e_next, e_ret, e_retN, e_ifS, e_set, e_drop, e_A, e_D, e_val, e_var0, e_varS, e_nil, e_cons, e_cmp, e_bin, e_blt, e_call, e_bl, blK_b, e_tru, trK_b, e_notT, e_andT, e_orT, e_and, andK_b, e_or, orK_b, e_not, notK_b, e_neg, negK_i, e_if, e_chain, chK_b, e_tup, e_lst, e_idx, e_attr, e_slice, e_noP, e_partE, ptK2_i, e_star, starK_lst, starK_tup, e_meth, ma_join, ma_split, ma_append, ma_pop, ma_index, meK_str, meK_lst, sl_tup, sl_lst, e_lc, e_for, e_iany, e_ienu, e_par, e_asg, e_sub, e_fld, stK_s, eq_int, ne_int, eq_str, ne_str, sOk_lit, sOk_numS, lt_int, le_int, gt_int, ge_int, in_sign, is_non, isNot_non, is_tup, isNot_tup, is_int, isNot_int, len_tup, len_ctup, len_lst, add_int, sub_int, int_int, abs_int, tuple_lst, tuple_tup, list_lst, list_tup, all_bls, o_lst, any_str, any_tup, any_lst, enu_tup, enu_lst, startE, List.map_cons, List.map_nil, List.length_cons, List.length_nil, List.replicate, List.nil_append, List.cons_append, List.set_cons_zero, List.set_cons_succ, Nat.reduceAdd, Nat.reduceSub, if_true, if_false, Bool.false_eq_true, ite_true, ite_false, sz0, sz1, sz2, sz3, sz4, sz5, sz6, sz7, sz8, sz9, ix_tup0, ix_tup1, ix_tup2, ix_tup3, ix_tup4, ix_tup5, ix_lst0, ix_lst1, ix_lst2, ix_lst3, ix_lst4, ix_lst5, ix_ctup0, ix_ctup1, ix_ctup2, ix_ctup3, ix_ctup4, ix_ctup5, e_attrX, at_x x1, at_x x2, at_x x3, at_x x4, at_x x5, at_x x6, at_x x7, ix_lst6, add_lst, sz, Nat.reduceLeDiff]
theorem sp_told_fields (k : Nat) (r : D) : (mkDy G T (k + 1)).call "_law_told_fields" [madeT t r] M = gcR M.length (.ok (.own (.lst [.str t, .str t, .str t, r, r])) M) := by
  rw [c__law_told_fields]
  unfold m__law_told_fields madeT
  simp only [bind_ok, map_ok, toS_ok, seq_nx, seq_rt, runS_nx, runS_rt, noX_ok, d_val, d_own, al_val, al_f, e_seq, e_next, e_ret, e_retN, e_ifS, e_set, e_drop, e_A, e_D, e_val, e_var0, e_varS, e_nil, e_cons, e_cmp, e_bin, e_blt, e_call, e_bl, blK_b, e_tru, trK_b, e_notT, e_andT, e_orT, e_and, andK_b, e_or, orK_b, e_not, notK_b, e_neg, negK_i, e_if, e_chain, chK_b, e_tup, e_lst, e_idx, e_attr, e_slice, e_noP, e_partE, ptK2_i, e_star, starK_lst, starK_tup, e_meth, ma_join, ma_split, ma_append, ma_pop, ma_index, meK_str, meK_lst, sl_tup, sl_lst, e_lc, e_for, e_iany, e_ienu, e_par, e_asg, e_sub, e_fld, stK_s, eq_int, ne_int, eq_str, ne_str, sOk_lit, sOk_numS, lt_int, le_int, gt_int, ge_int, in_sign, is_non, isNot_non, is_tup, isNot_tup, is_int, isNot_int, len_tup, len_ctup, len_lst, add_int, sub_int, int_int, abs_int, tuple_lst, tuple_tup, list_lst, list_tup, all_bls, o_lst, any_str, any_tup, any_lst, enu_tup, enu_lst, startE, List.map_cons, List.map_nil, List.length_cons, List.length_nil, List.replicate, List.nil_append, List.cons_append, List.set_cons_zero, List.set_cons_succ, Nat.reduceAdd, Nat.reduceSub, if_true, if_false, Bool.false_eq_true, ite_true, ite_false, sz0, sz1, sz2, sz3, sz4, sz5, sz6, sz7, sz8, sz9, ix_tup0, ix_tup1, ix_tup2, ix_tup3, ix_tup4, ix_tup5, ix_lst0, ix_lst1, ix_lst2, ix_lst3, ix_lst4, ix_lst5, ix_ctup0, ix_ctup1, ix_ctup2, ix_ctup3, ix_ctup4, ix_ctup5, e_attrX, at_x y1, at_x y2, at_x y3, at_x y4, at_x y5]
end
end Pc

set_option Elab.async false
set_option linter.all false
set_option maxRecDepth 100000
set_option maxHeartbeats 2000000
set_option autoImplicit false
/-! Kp4: whether the errors are right -/
namespace Pc
open PySem PySem.Spec PyProof.Rows L2
/-- a loop over a range whose turns go on -/
theorem for_rng {a : MS} {i n : Nat} {P : Nat → Sl → Mem → Prop} (hs : ∀ k env M, k < n → P k env M → ∃ env' M', a (env.set i (some (.int (k : Nat)))) M = .nx env' M' ∧ P (k + 1) env' M') :
    ∀ (f k : Nat) (env : Sl) (M : Mem), f + k = n → P k env M → ∃ env' M', forL (gRng 0 n) (gN i) a f k env M = .nx env' M' ∧ P n env' M'
  | 0, k, env, M, hk, h => by
    have e : k = n := by omega
    subst e
    refine ⟨env, M, ?_, h⟩
    unfold forL gRng
    simp
  | f + 1, k, env, M, hk, h => by
    have hlt : k < n := by omega
    obtain ⟨env', M', h1, h2⟩ := hs k env M hlt h
    obtain ⟨env2, M2, h3, h4⟩ := for_rng hs f (k + 1) env' M' (by omega) h2
    refine ⟨env2, M2, ?_, h4⟩
    rw [← h3]
    have e : forL (gRng 0 n) (gN i) a (f + 1) k env M = (match a (env.set i (some (.int (k : Nat)))) M with
      | .nx env2 M2 => forL (gRng 0 n) (gN i) a f (k + 1) env2 M2
      | .ct env2 M2 => forL (gRng 0 n) (gN i) a f (k + 1) env2 M2
      | .bk env2 M2 => .nx env2 M2
      | .rt rv M2 => .rt rv M2
      | .exc c ns ds env2 M2 => .exc c ns ds env2 M2
      | .stuck => .stuck) := by
      rw [forL]
      unfold gRng
      simp only [hlt, if_true, Int.zero_add]
      rfl
    rw [e, h1]
theorem rng_ok {j : Int} (h : okI j = true) (M : Mem) : rng1S [.int j] M = .ok (j.toNat, gRng 0 j.toNat) M := by
  show (if okI j then R.ok (j.toNat, gRng 0 j.toNat) M else .stuck) = _
  rw [if_pos h]
theorem rng_7 (M : Mem) : rng1S [.int 7] M = .ok (7, gRng 0 7) M := rng_ok (by decide +kernel) M
theorem rng_5 (M : Mem) : rng1S [.int 5] M = .ok (5, gRng 0 5) M := rng_ok (by decide +kernel) M
theorem rng_3 (M : Mem) : rng1S [.int 3] M = .ok (3, gRng 0 3) M := rng_ok (by decide +kernel) M
theorem ca0 : ((0 : Nat) : Int) = 0 := rfl
theorem ca1 : ((1 : Nat) : Int) = 1 := rfl
theorem ca2 : ((2 : Nat) : Int) = 2 := rfl
theorem ca3 : ((3 : Nat) : Int) = 3 := rfl
theorem ca4 : ((4 : Nat) : Int) = 4 := rfl
theorem ca5 : ((5 : Nat) : Int) = 5 := rfl
theorem ca6 : ((6 : Nat) : Int) = 6 := rfl
theorem l_BadContract : is_BadContract.lookup (8, ("BadContract" : Str)) = some true := e_BadContract.h0
theorem l_BadCount : is_BadCount.lookup (8, ("BadCount" : Str)) = some true := e_BadCount.h1
theorem l_BadName : is_BadName.lookup (8, ("BadName" : Str)) = some true := e_BadName.h2
theorem l_BadPlaces : is_BadPlaces.lookup (8, ("BadPlaces" : Str)) = some true := e_BadPlaces.h3
theorem l_BadPointers : is_BadPointers.lookup (8, ("BadPointers" : Str)) = some true := e_BadPointers.h4
theorem l_BadProgram : is_BadProgram.lookup (8, ("BadProgram" : Str)) = some true := e_BadProgram.h5
theorem l_Clash : is_Clash.lookup (8, ("Clash" : Str)) = some true := e_Clash.h6
theorem l_HasRegisters : is_HasRegisters.lookup (8, ("HasRegisters" : Str)) = some true := e_HasRegisters.h7
theorem l_NoFact : is_NoFact.lookup (8, ("NoFact" : Str)) = some true := e_NoFact.h8
theorem l_NoFunction : is_NoFunction.lookup (8, ("NoFunction" : Str)) = some true := e_NoFunction.h9
theorem l_NoLine : is_NoLine.lookup (8, ("NoLine" : Str)) = some true := e_NoLine.h10
theorem l_NotTwo : is_NotTwo.lookup (8, ("NotTwo" : Str)) = some true := e_NotTwo.h11
theorem l_NothingToUndo : is_NothingToUndo.lookup (8, ("NothingToUndo" : Str)) = some true := e_NothingToUndo.h12
theorem l_OtherPointers : is_OtherPointers.lookup (8, ("OtherPointers" : Str)) = some true := e_OtherPointers.h13
theorem l_Parted : is_Parted.lookup (8, ("Parted" : Str)) = some true := e_Parted.h14
theorem l_Stuck : is_Stuck.lookup (8, ("Stuck" : Str)) = some true := e_Stuck.h15
theorem l_Taken : is_Taken.lookup (8, ("Taken" : Str)) = some true := e_Taken.h16
theorem l_TooMany : is_TooMany.lookup (8, ("TooMany" : Str)) = some true := e_TooMany.h17
section
variable {M : Mem} {n : Int} {t : Str}
theorem sp_numbered_right (k : Nat) (hM : Cl M) : (mkDy G T (k + 3)).call "_law_numbered_right" [madeN n] M = .ok (.val (.bl true)) M := by
  have sz : ∀ n : Nat, n ≤ 1000 → (n ≤ sizeLine) = True := fun n hn => by rw [sizeLine_eq]; simp; omega
  have L := for_rng (i := 2) (n := 7) (a := mSeq (mIfS (mNotT (mTru (mCall 2 ((mkDy G T (k + 2)).call "_law_is_one") (mConsA false (mIdx (mVar 0) (mVar 2)) (mConsA false (mIdx (mVar 1) (mVar 2)) mNil))))) (mSeq (mRet (mVal (.bl false))) mNext) mNext) mNext)
    (P := fun j env M' => M' = M ∧ ∃ x, env = [some (madeN n), some (.lst [.bl true, .bl true, .bl true, .bl true, .bl true, .bl true, .bl true]), x]) (fun j env M' hj ⟨hM', x, he⟩ => by
      subst hM' he
      refine ⟨[some (madeN n), some (.lst [.bl true, .bl true, .bl true, .bl true, .bl true, .bl true, .bl true]), some (.int (j : Nat))], M', ?_, rfl, _, rfl⟩
      have h7 : j = 0 ∨ j = 1 ∨ j = 2 ∨ j = 3 ∨ j = 4 ∨ j = 5 ∨ j = 6 := by omega
      unfold madeN
      rcases h7 with rfl | rfl | rfl | rfl | rfl | rfl | rfl <;>
        simp only [bind_ok, map_ok, toS_ok, seq_nx, seq_rt, runS_nx, runS_rt, noX_ok, d_val, d_own, al_val, al_f, e_seq, e_next, e_ret, e_retN, e_ifS, e_set, e_drop, e_A, e_D, e_val, e_var0, e_varS, e_nil, e_cons, e_cmp, e_bin, e_blt, e_call, e_bl, blK_b, e_tru, trK_b, e_notT, e_andT, e_orT, e_and, andK_b, e_or, orK_b, e_not, notK_b, e_neg, negK_i, e_if, e_chain, chK_b, e_tup, e_lst, e_idx, e_attr, e_slice, e_noP, e_partE, ptK2_i, e_star, starK_lst, starK_tup, e_meth, ma_join, ma_split, ma_append, ma_pop, ma_index, meK_str, meK_lst, sl_tup, sl_lst, e_lc, e_for, e_iany, e_ienu, e_par, e_asg, e_sub, e_fld, stK_s, eq_int, ne_int, eq_str, ne_str, sOk_lit, sOk_numS, lt_int, le_int, gt_int, ge_int, in_sign, is_non, isNot_non, is_tup, isNot_tup, is_int, isNot_int, len_tup, len_ctup, len_lst, add_int, sub_int, int_int, abs_int, tuple_lst, tuple_tup, list_lst, list_tup, all_bls, o_lst, any_str, any_tup, any_lst, enu_tup, enu_lst, startE, List.map_cons, List.map_nil, List.length_cons, List.length_nil, List.replicate, List.nil_append, List.cons_append, List.set_cons_zero, List.set_cons_succ, Nat.reduceAdd, Nat.reduceSub, if_true, if_false, Bool.false_eq_true, ite_true, ite_false, sz0, sz1, sz2, sz3, sz4, sz5, sz6, sz7, sz8, sz9, ix_tup0, ix_tup1, ix_tup2, ix_tup3, ix_tup4, ix_tup5, ix_lst0, ix_lst1, ix_lst2, ix_lst3, ix_lst4, ix_lst5, ix_ctup0, ix_ctup1, ix_ctup2, ix_ctup3, ix_ctup4, ix_ctup5, ca0, ca1, ca2, ca3, ca4, ca5, ca6, ix_lst6, sp_is_one k e_BadPointers hM, sp_is_one k e_BadContract hM, sp_is_one k e_BadProgram hM, sp_is_one k e_BadCount hM, sp_is_one k e_NoLine hM, sp_is_one k e_TooMany hM, sp_is_one k e_NoFact hM, Bool.not_true]) 7 0 [some (madeN n), some (.lst [.bl true, .bl true, .bl true, .bl true, .bl true, .bl true, .bl true]), none] M rfl ⟨rfl, _, rfl⟩
  obtain ⟨env', M', h1, rfl, x, rfl⟩ := L
  rw [c__law_numbered_right]
  unfold m__law_numbered_right madeN at *
  simp only [bind_ok, map_ok, toS_ok, seq_nx, seq_rt, runS_nx, runS_rt, noX_ok, d_val, d_own, al_val, al_f, e_seq, e_next, e_ret, e_retN, e_ifS, e_set, e_drop, e_A, e_D, e_val, e_var0, e_varS, e_nil, e_cons, e_cmp, e_bin, e_blt, e_call, e_bl, blK_b, e_tru, trK_b, e_notT, e_andT, e_orT, e_and, andK_b, e_or, orK_b, e_not, notK_b, e_neg, negK_i, e_if, e_chain, chK_b, e_tup, e_lst, e_idx, e_attr, e_slice, e_noP, e_partE, ptK2_i, e_star, starK_lst, starK_tup, e_meth, ma_join, ma_split, ma_append, ma_pop, ma_index, meK_str, meK_lst, sl_tup, sl_lst, e_lc, e_for, e_iany, e_ienu, e_par, e_asg, e_sub, e_fld, stK_s, eq_int, ne_int, eq_str, ne_str, sOk_lit, sOk_numS, lt_int, le_int, gt_int, ge_int, in_sign, is_non, isNot_non, is_tup, isNot_tup, is_int, isNot_int, len_tup, len_ctup, len_lst, add_int, sub_int, int_int, abs_int, tuple_lst, tuple_tup, list_lst, list_tup, all_bls, o_lst, any_str, any_tup, any_lst, enu_tup, enu_lst, startE, List.map_cons, List.map_nil, List.length_cons, List.length_nil, List.replicate, List.nil_append, List.cons_append, List.set_cons_zero, List.set_cons_succ, Nat.reduceAdd, Nat.reduceSub, if_true, if_false, Bool.false_eq_true, ite_true, ite_false, sz0, sz1, sz2, sz3, sz4, sz5, sz6, sz7, sz8, sz9, ix_tup0, ix_tup1, ix_tup2, ix_tup3, ix_tup4, ix_tup5, ix_lst0, ix_lst1, ix_lst2, ix_lst3, ix_lst4, ix_lst5, ix_ctup0, ix_ctup1, ix_ctup2, ix_ctup3, ix_ctup4, ix_ctup5, e_isi, isiK_e, ix_lst6, l_BadPointers, l_BadContract, l_BadProgram, l_BadCount, l_NoLine, l_TooMany, l_NoFact, add_lst, sz, Nat.reduceLeDiff, e_irng1, rng_7]
  rw [h1]
  simp only [bind_ok, map_ok, toS_ok, seq_nx, seq_rt, runS_nx, runS_rt, noX_ok, d_val, d_own, al_val, al_f, e_seq, e_next, e_ret, e_retN, e_ifS, e_set, e_drop, e_A, e_D, e_val, e_var0, e_varS, e_nil, e_cons, e_cmp, e_bin, e_blt, e_call, e_bl, blK_b, e_tru, trK_b, e_notT, e_andT, e_orT, e_and, andK_b, e_or, orK_b, e_not, notK_b, e_neg, negK_i, e_if, e_chain, chK_b, e_tup, e_lst, e_idx, e_attr, e_slice, e_noP, e_partE, ptK2_i, e_star, starK_lst, starK_tup, e_meth, ma_join, ma_split, ma_append, ma_pop, ma_index, meK_str, meK_lst, sl_tup, sl_lst, e_lc, e_for, e_iany, e_ienu, e_par, e_asg, e_sub, e_fld, stK_s, eq_int, ne_int, eq_str, ne_str, sOk_lit, sOk_numS, lt_int, le_int, gt_int, ge_int, in_sign, is_non, isNot_non, is_tup, isNot_tup, is_int, isNot_int, len_tup, len_ctup, len_lst, add_int, sub_int, int_int, abs_int, tuple_lst, tuple_tup, list_lst, list_tup, all_bls, o_lst, any_str, any_tup, any_lst, enu_tup, enu_lst, startE, List.map_cons, List.map_nil, List.length_cons, List.length_nil, List.replicate, List.nil_append, List.cons_append, List.set_cons_zero, List.set_cons_succ, Nat.reduceAdd, Nat.reduceSub, if_true, if_false, Bool.false_eq_true, ite_true, ite_false, sz0, sz1, sz2, sz3, sz4, sz5, sz6, sz7, sz8, sz9, ix_tup0, ix_tup1, ix_tup2, ix_tup3, ix_tup4, ix_tup5, ix_lst0, ix_lst1, ix_lst2, ix_lst3, ix_lst4, ix_lst5, ix_ctup0, ix_ctup1, ix_ctup2, ix_ctup3, ix_ctup4, ix_ctup5, gc_same]
theorem sp_told_right (k : Nat) (r : D) (hM : Cl M) : (mkDy G T (k + 3)).call "_law_told_right" [madeT t r] M = .ok (.val (.bl true)) M := by
  have sz : ∀ n : Nat, n ≤ 1000 → (n ≤ sizeLine) = True := fun n hn => by rw [sizeLine_eq]; simp; omega
  have L := for_rng (i := 2) (n := 5) (a := mSeq (mIfS (mNotT (mTru (mCall 2 ((mkDy G T (k + 2)).call "_law_is_one") (mConsA false (mIdx (mVar 0) (mVar 2)) (mConsA false (mIdx (mVar 1) (mVar 2)) mNil))))) (mSeq (mRet (mVal (.bl false))) mNext) mNext) mNext)
    (P := fun j env M' => M' = M ∧ ∃ x, env = [some (madeT t r), some (.lst [.bl true, .bl true, .bl true, .bl true, .bl true]), x]) (fun j env M' hj ⟨hM', x, he⟩ => by
      subst hM' he
      refine ⟨[some (madeT t r), some (.lst [.bl true, .bl true, .bl true, .bl true, .bl true]), some (.int (j : Nat))], M', ?_, rfl, _, rfl⟩
      have h7 : j = 0 ∨ j = 1 ∨ j = 2 ∨ j = 3 ∨ j = 4 := by omega
      unfold madeT
      rcases h7 with rfl | rfl | rfl | rfl | rfl <;>
        simp only [bind_ok, map_ok, toS_ok, seq_nx, seq_rt, runS_nx, runS_rt, noX_ok, d_val, d_own, al_val, al_f, e_seq, e_next, e_ret, e_retN, e_ifS, e_set, e_drop, e_A, e_D, e_val, e_var0, e_varS, e_nil, e_cons, e_cmp, e_bin, e_blt, e_call, e_bl, blK_b, e_tru, trK_b, e_notT, e_andT, e_orT, e_and, andK_b, e_or, orK_b, e_not, notK_b, e_neg, negK_i, e_if, e_chain, chK_b, e_tup, e_lst, e_idx, e_attr, e_slice, e_noP, e_partE, ptK2_i, e_star, starK_lst, starK_tup, e_meth, ma_join, ma_split, ma_append, ma_pop, ma_index, meK_str, meK_lst, sl_tup, sl_lst, e_lc, e_for, e_iany, e_ienu, e_par, e_asg, e_sub, e_fld, stK_s, eq_int, ne_int, eq_str, ne_str, sOk_lit, sOk_numS, lt_int, le_int, gt_int, ge_int, in_sign, is_non, isNot_non, is_tup, isNot_tup, is_int, isNot_int, len_tup, len_ctup, len_lst, add_int, sub_int, int_int, abs_int, tuple_lst, tuple_tup, list_lst, list_tup, all_bls, o_lst, any_str, any_tup, any_lst, enu_tup, enu_lst, startE, List.map_cons, List.map_nil, List.length_cons, List.length_nil, List.replicate, List.nil_append, List.cons_append, List.set_cons_zero, List.set_cons_succ, Nat.reduceAdd, Nat.reduceSub, if_true, if_false, Bool.false_eq_true, ite_true, ite_false, sz0, sz1, sz2, sz3, sz4, sz5, sz6, sz7, sz8, sz9, ix_tup0, ix_tup1, ix_tup2, ix_tup3, ix_tup4, ix_tup5, ix_lst0, ix_lst1, ix_lst2, ix_lst3, ix_lst4, ix_lst5, ix_ctup0, ix_ctup1, ix_ctup2, ix_ctup3, ix_ctup4, ix_ctup5, ca0, ca1, ca2, ca3, ca4, sp_is_one k e_BadName hM, sp_is_one k e_Taken hM, sp_is_one k e_NoFunction hM, sp_is_one k e_Stuck hM, sp_is_one k e_Parted hM, Bool.not_true]) 5 0 [some (madeT t r), some (.lst [.bl true, .bl true, .bl true, .bl true, .bl true]), none] M rfl ⟨rfl, _, rfl⟩
  obtain ⟨env', M', h1, rfl, x, rfl⟩ := L
  rw [c__law_told_right]
  unfold m__law_told_right madeT at *
  simp only [bind_ok, map_ok, toS_ok, seq_nx, seq_rt, runS_nx, runS_rt, noX_ok, d_val, d_own, al_val, al_f, e_seq, e_next, e_ret, e_retN, e_ifS, e_set, e_drop, e_A, e_D, e_val, e_var0, e_varS, e_nil, e_cons, e_cmp, e_bin, e_blt, e_call, e_bl, blK_b, e_tru, trK_b, e_notT, e_andT, e_orT, e_and, andK_b, e_or, orK_b, e_not, notK_b, e_neg, negK_i, e_if, e_chain, chK_b, e_tup, e_lst, e_idx, e_attr, e_slice, e_noP, e_partE, ptK2_i, e_star, starK_lst, starK_tup, e_meth, ma_join, ma_split, ma_append, ma_pop, ma_index, meK_str, meK_lst, sl_tup, sl_lst, e_lc, e_for, e_iany, e_ienu, e_par, e_asg, e_sub, e_fld, stK_s, eq_int, ne_int, eq_str, ne_str, sOk_lit, sOk_numS, lt_int, le_int, gt_int, ge_int, in_sign, is_non, isNot_non, is_tup, isNot_tup, is_int, isNot_int, len_tup, len_ctup, len_lst, add_int, sub_int, int_int, abs_int, tuple_lst, tuple_tup, list_lst, list_tup, all_bls, o_lst, any_str, any_tup, any_lst, enu_tup, enu_lst, startE, List.map_cons, List.map_nil, List.length_cons, List.length_nil, List.replicate, List.nil_append, List.cons_append, List.set_cons_zero, List.set_cons_succ, Nat.reduceAdd, Nat.reduceSub, if_true, if_false, Bool.false_eq_true, ite_true, ite_false, sz0, sz1, sz2, sz3, sz4, sz5, sz6, sz7, sz8, sz9, ix_tup0, ix_tup1, ix_tup2, ix_tup3, ix_tup4, ix_tup5, ix_lst0, ix_lst1, ix_lst2, ix_lst3, ix_lst4, ix_lst5, ix_ctup0, ix_ctup1, ix_ctup2, ix_ctup3, ix_ctup4, ix_ctup5, e_isi, isiK_e, l_BadName, l_Taken, l_NoFunction, l_Stuck, l_Parted, add_lst, sz, Nat.reduceLeDiff, e_irng1, rng_5]
  rw [h1]
  simp only [bind_ok, map_ok, toS_ok, seq_nx, seq_rt, runS_nx, runS_rt, noX_ok, d_val, d_own, al_val, al_f, e_seq, e_next, e_ret, e_retN, e_ifS, e_set, e_drop, e_A, e_D, e_val, e_var0, e_varS, e_nil, e_cons, e_cmp, e_bin, e_blt, e_call, e_bl, blK_b, e_tru, trK_b, e_notT, e_andT, e_orT, e_and, andK_b, e_or, orK_b, e_not, notK_b, e_neg, negK_i, e_if, e_chain, chK_b, e_tup, e_lst, e_idx, e_attr, e_slice, e_noP, e_partE, ptK2_i, e_star, starK_lst, starK_tup, e_meth, ma_join, ma_split, ma_append, ma_pop, ma_index, meK_str, meK_lst, sl_tup, sl_lst, e_lc, e_for, e_iany, e_ienu, e_par, e_asg, e_sub, e_fld, stK_s, eq_int, ne_int, eq_str, ne_str, sOk_lit, sOk_numS, lt_int, le_int, gt_int, ge_int, in_sign, is_non, isNot_non, is_tup, isNot_tup, is_int, isNot_int, len_tup, len_ctup, len_lst, add_int, sub_int, int_int, abs_int, tuple_lst, tuple_tup, list_lst, list_tup, all_bls, o_lst, any_str, any_tup, any_lst, enu_tup, enu_lst, startE, List.map_cons, List.map_nil, List.length_cons, List.length_nil, List.replicate, List.nil_append, List.cons_append, List.set_cons_zero, List.set_cons_succ, Nat.reduceAdd, Nat.reduceSub, if_true, if_false, Bool.false_eq_true, ite_true, ite_false, sz0, sz1, sz2, sz3, sz4, sz5, sz6, sz7, sz8, sz9, ix_tup0, ix_tup1, ix_tup2, ix_tup3, ix_tup4, ix_tup5, ix_lst0, ix_lst1, ix_lst2, ix_lst3, ix_lst4, ix_lst5, ix_ctup0, ix_ctup1, ix_ctup2, ix_ctup3, ix_ctup4, ix_ctup5, gc_same]
theorem cl_bls (bs : List Bool) (n : Nat) : clO n (.lst (bs.map D.bl)) = true := by
  show clL n (bs.map D.bl) = true
  induction bs with
  | nil => rfl
  | cons b bs ih =>
    rw [List.map_cons, clL, ih]
    rfl
theorem as4 {e : Sl} {a b c d : Nat} {w x y z : D} : asK (gT 4 (gsCons (gN a) (gsCons (gN b) (gsCons (gN c) (gsCons (gN d) gsNil))))) e (.tup [w, x, y, z]) M = .nx ((((e.set a (some w)).set b (some x)).set c (some y)).set d (some z)) M := rfl
theorem put2 {e : Sl} {a b : Nat} {x y : D} : putE e ([a, b].zip [x, y]) = (e.set a (some x)).set b (some y) := rfl
theorem notin_f : cmpS .NotIn (.bl false) (.ref M.length) (M ++ [.lst [.bl true, .bl true, .bl true, .bl true, .bl true, .bl true]]) = .ok (.val (.bl true)) (M ++ [.lst [.bl true, .bl true, .bl true, .bl true, .bl true, .bl true]]) := by
  show rB ((inO (.bl false) (.ref M.length) (M ++ [.lst [.bl true, .bl true, .bl true, .bl true, .bl true, .bl true]])).map not) _ = _
  have e : inO (.bl false) (.ref M.length) (M ++ [.lst [.bl true, .bl true, .bl true, .bl true, .bl true, .bl true]]) = some false := by
    unfold inO
    simp only [seqL, at_cat]
    show (if SeqAt.shaped (PyData.bool false) = true ∧ SeqAt.shaped (PyData.list [.bool true, .bool true, .bool true, .bool true, .bool true, .bool true]) = true then some ([PyData.bool true, .bool true, .bool true, .bool true, .bool true, .bool true].any fun z => z.eqv (.bool false)) else none) = _
    rw [if_pos ⟨by unfold SeqAt.shaped; simp [PyData.canLay0, PyData.depth], by unfold SeqAt.shaped; simp [PyData.canLay0, PyData.canLayAll0, PyData.depth, PyData.depthAll]⟩]
    simp [PyData.eqv]
  rw [e]
  rfl
theorem sp_plain_right (k : Nat) (hM : Cl M) : (mkDy G T (k + 3)).call "_law_plain_right" [] M = .ok (.val (.bl true)) M := by
  have sz' : ∀ n : Nat, n ≤ 1000 → (n < sizeLine) = True := fun n hn => by rw [sizeLine_eq]; simp; omega
  have M1 : Cl (M ++ [.lst [.bl true]]) := hM.add (cl_bls [true])
  have M2 : Cl (M ++ [.lst [.bl true, .bl true]]) := hM.add (cl_bls [true, true])
  have M3 : Cl (M ++ [.lst [.bl true, .bl true, .bl true]]) := hM.add (cl_bls [true, true, true])
  have M4 : Cl (M ++ [.lst [.bl true, .bl true, .bl true, .bl true]]) := hM.add (cl_bls [true, true, true, true])
  have M5 : Cl (M ++ [.lst [.bl true, .bl true, .bl true, .bl true, .bl true]]) := hM.add (cl_bls [true, true, true, true, true])
  rw [c__law_plain_right]
  unfold m__law_plain_right
  simp only [bind_ok, map_ok, toS_ok, seq_nx, seq_rt, runS_nx, runS_rt, noX_ok, d_val, d_own, al_val, al_f, e_seq, e_next, e_ret, e_retN, e_ifS, e_set, e_drop, e_A, e_D, e_val, e_var0, e_varS, e_nil, e_cons, e_cmp, e_bin, e_blt, e_call, e_bl, blK_b, e_tru, trK_b, e_notT, e_andT, e_orT, e_and, andK_b, e_or, orK_b, e_not, notK_b, e_neg, negK_i, e_if, e_chain, chK_b, e_tup, e_lst, e_idx, e_attr, e_slice, e_noP, e_partE, ptK2_i, e_star, starK_lst, starK_tup, e_meth, ma_join, ma_split, ma_append, ma_pop, ma_index, meK_str, meK_lst, sl_tup, sl_lst, e_lc, e_for, e_iany, e_ienu, e_par, e_asg, e_sub, e_fld, stK_s, eq_int, ne_int, eq_str, ne_str, sOk_lit, sOk_numS, lt_int, le_int, gt_int, ge_int, in_sign, is_non, isNot_non, is_tup, isNot_tup, is_int, isNot_int, len_tup, len_ctup, len_lst, add_int, sub_int, int_int, abs_int, tuple_lst, tuple_tup, list_lst, list_tup, all_bls, o_lst, any_str, any_tup, any_lst, enu_tup, enu_lst, startE, List.map_cons, List.map_nil, List.length_cons, List.length_nil, List.replicate, List.nil_append, List.cons_append, List.set_cons_zero, List.set_cons_succ, Nat.reduceAdd, Nat.reduceSub, if_true, if_false, Bool.false_eq_true, ite_true, ite_false, sz0, sz1, sz2, sz3, sz4, sz5, sz6, sz7, sz8, sz9, ix_tup0, ix_tup1, ix_tup2, ix_tup3, ix_tup4, ix_tup5, ix_lst0, ix_lst1, ix_lst2, ix_lst3, ix_lst4, ix_lst5, ix_ctup0, ix_ctup1, ix_ctup2, ix_ctup3, ix_ctup4, ix_ctup5, e_isi, isiK_e, e_exo, mkE_0, al_t', meK_cat, app_cat, sz', Nat.reduceLeDiff, as4, put2, notin_f, l_BadPlaces, l_OtherPointers, l_HasRegisters, l_NotTwo, l_Clash, l_NothingToUndo, sp_is_one k e_BadPlaces hM, sp_is_one k e_OtherPointers M1, sp_is_one k e_HasRegisters M2, sp_is_one k e_NotTwo M3, sp_is_one k e_Clash M4, sp_is_one k e_NothingToUndo M5]
  exact gc_drop hM rfl
end
end Pc

set_option Elab.async false
set_option linter.all false
set_option maxRecDepth 100000
set_option maxHeartbeats 2000000
set_option autoImplicit false
/-! Kp1: the pen -/
namespace Pc
open PySem PySem.Spec PyProof.Rows L2
def pen (ns : List Int) (t l : Int) : MO := .dk [.inr "cells", .inr "turn", .inr "left"] [.lst (ns.map D.int), .int t, .int l]
theorem pyL_ints (ns : List Int) : pyL (ns.map D.int) = some (ns.map PyData.int) := by
  induction ns with
  | nil => rfl
  | cons y ys ih => rw [List.map_cons, pyL, ih]; rfl
theorem lay_ints : ∀ ns : List Int, PyData.canLayAll0 (ns.map PyData.int) = true
  | [] => by simp [PyData.canLayAll0]
  | n :: ns => by rw [List.map_cons]; simp [PyData.canLayAll0, PyData.canLay0, lay_ints ns]
theorem dep_ints : ∀ ns : List Int, PyData.depthAll (ns.map PyData.int) = 0
  | [] => by simp [PyData.depthAll]
  | n :: ns => by rw [List.map_cons]; simp [PyData.depthAll, PyData.depth, dep_ints ns]
theorem sh_ints (ns : List Int) : SeqAt.shaped (.list (ns.map PyData.int)) = true := by
  unfold SeqAt.shaped
  simp [PyData.canLay0, PyData.depth, lay_ints, dep_ints]
section
variable {R M : Mem} {ns : List Int} {t l v : Int}
theorem px_left : idxS (.ref 0) (.str "left") (pen ns t l :: R) = .ok (.val (.int l)) (pen ns t l :: R) := by kernel_rfl
theorem px_turn : idxS (.ref 0) (.str "turn") (pen ns t l :: R) = .ok (.val (.int t)) (pen ns t l :: R) := by kernel_rfl
theorem px_cells : idxS (.ref 0) (.str "cells") (pen ns t l :: R) = .ok (.val (.lst (ns.map D.int))) (pen ns t l :: R) := by kernel_rfl
theorem ps_left : setS (.ref 0) (.str "left") (.int v) (pen ns t l :: R) = some (pen ns t v :: R) := by kernel_rfl
theorem ps_turn : setS (.ref 0) (.str "turn") (.int v) (pen ns t l :: R) = some (pen ns v l :: R) := by kernel_rfl
theorem gc_pen {d : D} {t2 l2 : Int} : gcR (R.length + 1) (.ok (.val d) (pen ns t2 l2 :: R)) = .ok (.val d) (pen ns t2 l2 :: R) := gc_same d (pen ns t2 l2 :: R)
theorem ne_cells (ns : List Int) : cmpS .NotEq (.lst (ns.map D.int)) (.lst []) M = .ok (.val (.bl (!ns.isEmpty))) M := by
  have hp : ∀ xs : List Int, (D.lst (xs.map D.int)).py M = some (.list (xs.map PyData.int)) := fun xs => by
    show (D.lst (xs.map D.int)).py0 = _
    rw [D.py0, pyL_ints]
  have e : eqO (.lst (ns.map D.int)) (.lst []) M = some (PyData.eqv (.list (ns.map PyData.int)) (.list [])) := by
    unfold eqO
    rw [hp ns, show (D.lst []).py M = some (.list []) from hp []]
    dsimp only
    rw [if_pos ⟨sh_ints ns, sh_ints []⟩]
  show rB ((eqO (.lst (ns.map D.int)) (.lst []) M).map not) M = _
  rw [e]
  cases ns with
  | nil => simp [PyData.eqv, rB, vB, PyData.eqvAll]
  | cons n ns => simp [PyData.eqv, rB, vB, PyData.eqvAll]
theorem ne_nil : cmpS .NotEq (.lst []) (.lst []) M = .ok (.val (.bl false)) M := ne_cells []
theorem at_cell {i : Int} (h : 0 ≤ i) (h2 : i < ns.length) : ∃ c : Int, idxS (.lst (ns.map D.int)) (.int i) M = .ok (.val (.int c)) M := by
  have hlt : i.toNat < ns.length := by omega
  refine ⟨ns[i.toNat], ?_⟩
  have e : atI (ns.map D.int) i = some (.int ns[i.toNat]) := by
    unfold atI ixN
    rw [if_pos h, if_pos (by rw [List.length_map]; omega), Option.bind_some, List.getElem?_map, List.getElem?_eq_getElem hlt]
    rfl
  show oV (atI (ns.map D.int) i) M = _
  rw [e]
  rfl
theorem pow_18 : binS .Pow (.int 10) (.int 18) M = .ok (.val (.int (10 ^ 18))) M := by kernel_rfl
/-- the chain that mixes a number from a cell -/
def mix1 (c : Int) : Int := c % 4294967087 * 48611
def mix2 (c t : Int) : Int := (mix1 c + t * (t * 27919 + 10601) + 41) % 4294967029
def mix3 (c t : Int) : Int := (mix2 c t * (mix2 c t + 75013)) % 4294966997
def mix4 (c t : Int) : Int := (mix3 c t * mix3 c t + 30427 * mix3 c t + 19 * t) % 4294966981
def mix5 (c t : Int) : Int := (mix4 c t * (mix4 c t + 58111)) % 4294966943 / 64
theorem sp_draw (k : Nat) {s : Int} (hs : 0 < s) (hs2 : s.natAbs.log2 < 9000) (ht : 0 ≤ t) (ht2 : t < 2 ^ 40) (hl : ns.length ≤ 63) :
    ∃ r t' l', (mkDy G T (k + 1)).call "_law_draw" [.ref 0, .int s] (pen ns t l :: R) = .ok (.val (.int r)) (pen ns t' l' :: R) ∧ 0 ≤ r ∧ r < s ∧ 0 ≤ t' ∧ t' ≤ t + 1 := by
  have ne : s ≠ 0 := by omega
  rw [c__law_draw]
  unfold m__law_draw
  by_cases h0 : 0 < l
  · refine ⟨l % s, t, l / s, ?_, Int.emod_nonneg _ ne, Int.emod_lt_of_pos _ hs, ht, by omega⟩
    simp only [bind_ok, map_ok, toS_ok, seq_nx, seq_rt, runS_nx, runS_rt, noX_ok, d_val, d_own, al_val, al_f, e_seq, e_next, e_ret, e_retN, e_ifS, e_set, e_drop, e_A, e_D, e_val, e_var0, e_varS, e_nil, e_cons, e_cmp, e_bin, e_blt, e_call, e_bl, blK_b, e_tru, trK_b, e_notT, e_andT, e_orT, e_and, andK_b, e_or, orK_b, e_not, notK_b, e_neg, negK_i, e_if, e_chain, chK_b, e_tup, e_lst, e_idx, e_attr, e_slice, e_noP, e_partE, ptK2_i, e_star, starK_lst, starK_tup, e_meth, ma_join, ma_split, ma_append, ma_pop, ma_index, meK_str, meK_lst, sl_tup, sl_lst, e_lc, e_for, e_iany, e_ienu, e_par, e_asg, e_sub, e_fld, stK_s, eq_int, ne_int, eq_str, ne_str, sOk_lit, sOk_numS, lt_int, le_int, gt_int, ge_int, in_sign, is_non, isNot_non, is_tup, isNot_tup, is_int, isNot_int, len_tup, len_ctup, len_lst, add_int, sub_int, int_int, abs_int, tuple_lst, tuple_tup, list_lst, list_tup, all_bls, o_lst, any_str, any_tup, any_lst, enu_tup, enu_lst, startE, List.map_cons, List.map_nil, List.length_cons, List.length_nil, List.replicate, List.nil_append, List.cons_append, List.set_cons_zero, List.set_cons_succ, Nat.reduceAdd, Nat.reduceSub, if_true, if_false, Bool.false_eq_true, ite_true, ite_false, sz0, sz1, sz2, sz3, sz4, sz5, sz6, sz7, sz8, sz9, ix_tup0, ix_tup1, ix_tup2, ix_tup3, ix_tup4, ix_tup5, ix_lst0, ix_lst1, ix_lst2, ix_lst3, ix_lst4, ix_lst5, ix_ctup0, ix_ctup1, ix_ctup2, ix_ctup3, ix_ctup4, ix_ctup5, px_left, decide_eq_true h0, mod_int hs, div_int ⟨hs, hs2⟩, ps_left, gc_pen]
  · have m1 : ∀ M, binS .Mult (.int 61) (.int t) M = .ok (.val (.int (61 * t))) M := fun M => mul_int (.inl (by decide))
    have m2 : ∀ x M, binS .Mult (.int (x % 4294967087)) (.int 48611) M = .ok (.val (.int (x % 4294967087 * 48611))) M := fun x M => mul_int (.inr (.inl (by decide)))
    have m4 : ∀ j M, binS .Mult (.int t) (.int j) M = .ok (.val (.int (t * j))) M := fun j M => mul_int (.inl ⟨by omega, by omega⟩)
    have m5 : ∀ x j M, binS .Mult (.int (x % 4294967029)) (.int j) M = .ok (.val (.int (x % 4294967029 * j))) M := fun x j M => mul_int (.inl ⟨by omega, by omega⟩)
    have m6 : ∀ x j M, binS .Mult (.int (x % 4294966997)) (.int j) M = .ok (.val (.int (x % 4294966997 * j))) M := fun x j M => mul_int (.inl ⟨by omega, by omega⟩)
    have m7 : ∀ j M, binS .Mult (.int 30427) (.int j) M = .ok (.val (.int (30427 * j))) M := fun j M => mul_int (.inl (by decide))
    have m8 : ∀ j M, binS .Mult (.int 19) (.int j) M = .ok (.val (.int (19 * j))) M := fun j M => mul_int (.inl (by decide))
    have m9 : ∀ x j M, binS .Mult (.int (x % 4294966981)) (.int j) M = .ok (.val (.int (x % 4294966981 * j))) M := fun x j M => mul_int (.inl ⟨by omega, by omega⟩)
    have d1 : ∀ x M, binS .Mod (.int x) (.int 4294967087) M = .ok (.val (.int (x % 4294967087))) M := fun x M => mod_int (by decide)
    have d2 : ∀ x M, binS .Mod (.int x) (.int 4294967029) M = .ok (.val (.int (x % 4294967029))) M := fun x M => mod_int (by decide)
    have d3 : ∀ x M, binS .Mod (.int x) (.int 4294966997) M = .ok (.val (.int (x % 4294966997))) M := fun x M => mod_int (by decide)
    have d4 : ∀ x M, binS .Mod (.int x) (.int 4294966981) M = .ok (.val (.int (x % 4294966981))) M := fun x M => mod_int (by decide)
    have d5 : ∀ x M, binS .Mod (.int x) (.int 4294966943) M = .ok (.val (.int (x % 4294966943))) M := fun x M => mod_int (by decide)
    have d6 : ∀ x M, binS .FloorDiv (.int x) (.int 64) M = .ok (.val (.int (x / 64))) M := fun x M => div_int (by decide)
    have f0 : decide (0 < l) = false := decide_eq_false h0
    by_cases hn : ns = []
    · subst hn
      have g0 : decide (t < 0) = false := decide_eq_false (by omega)
      simp only [bind_ok, map_ok, toS_ok, seq_nx, seq_rt, runS_nx, runS_rt, noX_ok, d_val, d_own, al_val, al_f, e_seq, e_next, e_ret, e_retN, e_ifS, e_set, e_drop, e_A, e_D, e_val, e_var0, e_varS, e_nil, e_cons, e_cmp, e_bin, e_blt, e_call, e_bl, blK_b, e_tru, trK_b, e_notT, e_andT, e_orT, e_and, andK_b, e_or, orK_b, e_not, notK_b, e_neg, negK_i, e_if, e_chain, chK_b, e_tup, e_lst, e_idx, e_attr, e_slice, e_noP, e_partE, ptK2_i, e_star, starK_lst, starK_tup, e_meth, ma_join, ma_split, ma_append, ma_pop, ma_index, meK_str, meK_lst, sl_tup, sl_lst, e_lc, e_for, e_iany, e_ienu, e_par, e_asg, e_sub, e_fld, stK_s, eq_int, ne_int, eq_str, ne_str, sOk_lit, sOk_numS, lt_int, le_int, gt_int, ge_int, in_sign, is_non, isNot_non, is_tup, isNot_tup, is_int, isNot_int, len_tup, len_ctup, len_lst, add_int, sub_int, int_int, abs_int, tuple_lst, tuple_tup, list_lst, list_tup, all_bls, o_lst, any_str, any_tup, any_lst, enu_tup, enu_lst, startE, List.map_cons, List.map_nil, List.length_cons, List.length_nil, List.replicate, List.nil_append, List.cons_append, List.set_cons_zero, List.set_cons_succ, Nat.reduceAdd, Nat.reduceSub, if_true, if_false, Bool.false_eq_true, ite_true, ite_false, sz0, sz1, sz2, sz3, sz4, sz5, sz6, sz7, sz8, sz9, ix_tup0, ix_tup1, ix_tup2, ix_tup3, ix_tup4, ix_tup5, ix_lst0, ix_lst1, ix_lst2, ix_lst3, ix_lst4, ix_lst5, ix_ctup0, ix_ctup1, ix_ctup2, ix_ctup3, ix_ctup4, ix_ctup5, px_left, px_turn, px_cells, f0, ps_turn, m1, ne_nil, ca0, g0, m2, m4, m5, m6, m7, m8, m9, d1, d2, d3, d4, d5, d6, mod_int hs, gc_pen]
      exact ⟨_, _, _, rfl, Int.emod_nonneg _ ne, Int.emod_lt_of_pos _ hs, by omega, by omega⟩
    · have hp : 0 < ns.length := List.length_pos_iff.mpr hn
      have he : ns.isEmpty = false := by cases ns <;> simp_all
      have hq : (0 : Int) < (ns.length : Nat) := by omega
      obtain ⟨c, hc⟩ := at_cell (M := pen ns (t + 1) l :: R) (ns := ns) (i := t % (ns.length : Nat)) (Int.emod_nonneg _ (by omega)) (Int.emod_lt_of_pos _ hq)
      by_cases hb : t < (ns.length : Nat)
      · by_cases hbig : (10 : Int) ^ 18 ≤ (if c < 0 then -c else c)
        · simp only [bind_ok, map_ok, toS_ok, seq_nx, seq_rt, runS_nx, runS_rt, noX_ok, d_val, d_own, al_val, al_f, e_seq, e_next, e_ret, e_retN, e_ifS, e_set, e_drop, e_A, e_D, e_val, e_var0, e_varS, e_nil, e_cons, e_cmp, e_bin, e_blt, e_call, e_bl, blK_b, e_tru, trK_b, e_notT, e_andT, e_orT, e_and, andK_b, e_or, orK_b, e_not, notK_b, e_neg, negK_i, e_if, e_chain, chK_b, e_tup, e_lst, e_idx, e_attr, e_slice, e_noP, e_partE, ptK2_i, e_star, starK_lst, starK_tup, e_meth, ma_join, ma_split, ma_append, ma_pop, ma_index, meK_str, meK_lst, sl_tup, sl_lst, e_lc, e_for, e_iany, e_ienu, e_par, e_asg, e_sub, e_fld, stK_s, eq_int, ne_int, eq_str, ne_str, sOk_lit, sOk_numS, lt_int, le_int, gt_int, ge_int, in_sign, is_non, isNot_non, is_tup, isNot_tup, is_int, isNot_int, len_tup, len_ctup, len_lst, add_int, sub_int, int_int, abs_int, tuple_lst, tuple_tup, list_lst, list_tup, all_bls, o_lst, any_str, any_tup, any_lst, enu_tup, enu_lst, startE, List.map_cons, List.map_nil, List.length_cons, List.length_nil, List.replicate, List.nil_append, List.cons_append, List.set_cons_zero, List.set_cons_succ, Nat.reduceAdd, Nat.reduceSub, if_true, if_false, Bool.false_eq_true, ite_true, ite_false, sz0, sz1, sz2, sz3, sz4, sz5, sz6, sz7, sz8, sz9, ix_tup0, ix_tup1, ix_tup2, ix_tup3, ix_tup4, ix_tup5, ix_lst0, ix_lst1, ix_lst2, ix_lst3, ix_lst4, ix_lst5, ix_ctup0, ix_ctup1, ix_ctup2, ix_ctup3, ix_ctup4, ix_ctup5, px_left, px_turn, px_cells, f0, ps_turn, m1, ne_cells, he, Bool.not_false, List.length_map, mod_int hq, hc, decide_eq_true hb, pow_18, decide_eq_true hbig, div_int ⟨hs, hs2⟩, ps_left, mod_int hs, gc_pen]
          exact ⟨_, _, _, rfl, Int.emod_nonneg _ ne, Int.emod_lt_of_pos _ hs, by omega, by omega⟩
        · simp only [bind_ok, map_ok, toS_ok, seq_nx, seq_rt, runS_nx, runS_rt, noX_ok, d_val, d_own, al_val, al_f, e_seq, e_next, e_ret, e_retN, e_ifS, e_set, e_drop, e_A, e_D, e_val, e_var0, e_varS, e_nil, e_cons, e_cmp, e_bin, e_blt, e_call, e_bl, blK_b, e_tru, trK_b, e_notT, e_andT, e_orT, e_and, andK_b, e_or, orK_b, e_not, notK_b, e_neg, negK_i, e_if, e_chain, chK_b, e_tup, e_lst, e_idx, e_attr, e_slice, e_noP, e_partE, ptK2_i, e_star, starK_lst, starK_tup, e_meth, ma_join, ma_split, ma_append, ma_pop, ma_index, meK_str, meK_lst, sl_tup, sl_lst, e_lc, e_for, e_iany, e_ienu, e_par, e_asg, e_sub, e_fld, stK_s, eq_int, ne_int, eq_str, ne_str, sOk_lit, sOk_numS, lt_int, le_int, gt_int, ge_int, in_sign, is_non, isNot_non, is_tup, isNot_tup, is_int, isNot_int, len_tup, len_ctup, len_lst, add_int, sub_int, int_int, abs_int, tuple_lst, tuple_tup, list_lst, list_tup, all_bls, o_lst, any_str, any_tup, any_lst, enu_tup, enu_lst, startE, List.map_cons, List.map_nil, List.length_cons, List.length_nil, List.replicate, List.nil_append, List.cons_append, List.set_cons_zero, List.set_cons_succ, Nat.reduceAdd, Nat.reduceSub, if_true, if_false, Bool.false_eq_true, ite_true, ite_false, sz0, sz1, sz2, sz3, sz4, sz5, sz6, sz7, sz8, sz9, ix_tup0, ix_tup1, ix_tup2, ix_tup3, ix_tup4, ix_tup5, ix_lst0, ix_lst1, ix_lst2, ix_lst3, ix_lst4, ix_lst5, ix_ctup0, ix_ctup1, ix_ctup2, ix_ctup3, ix_ctup4, ix_ctup5, px_left, px_turn, px_cells, f0, ps_turn, m1, ne_cells, he, Bool.not_false, List.length_map, mod_int hq, hc, decide_eq_true hb, pow_18, decide_eq_false hbig, m2, m4, m5, m6, m7, m8, m9, d1, d2, d3, d4, d5, d6, mod_int hs, gc_pen]
          exact ⟨_, _, _, rfl, Int.emod_nonneg _ ne, Int.emod_lt_of_pos _ hs, by omega, by omega⟩
      · simp only [bind_ok, map_ok, toS_ok, seq_nx, seq_rt, runS_nx, runS_rt, noX_ok, d_val, d_own, al_val, al_f, e_seq, e_next, e_ret, e_retN, e_ifS, e_set, e_drop, e_A, e_D, e_val, e_var0, e_varS, e_nil, e_cons, e_cmp, e_bin, e_blt, e_call, e_bl, blK_b, e_tru, trK_b, e_notT, e_andT, e_orT, e_and, andK_b, e_or, orK_b, e_not, notK_b, e_neg, negK_i, e_if, e_chain, chK_b, e_tup, e_lst, e_idx, e_attr, e_slice, e_noP, e_partE, ptK2_i, e_star, starK_lst, starK_tup, e_meth, ma_join, ma_split, ma_append, ma_pop, ma_index, meK_str, meK_lst, sl_tup, sl_lst, e_lc, e_for, e_iany, e_ienu, e_par, e_asg, e_sub, e_fld, stK_s, eq_int, ne_int, eq_str, ne_str, sOk_lit, sOk_numS, lt_int, le_int, gt_int, ge_int, in_sign, is_non, isNot_non, is_tup, isNot_tup, is_int, isNot_int, len_tup, len_ctup, len_lst, add_int, sub_int, int_int, abs_int, tuple_lst, tuple_tup, list_lst, list_tup, all_bls, o_lst, any_str, any_tup, any_lst, enu_tup, enu_lst, startE, List.map_cons, List.map_nil, List.length_cons, List.length_nil, List.replicate, List.nil_append, List.cons_append, List.set_cons_zero, List.set_cons_succ, Nat.reduceAdd, Nat.reduceSub, if_true, if_false, Bool.false_eq_true, ite_true, ite_false, sz0, sz1, sz2, sz3, sz4, sz5, sz6, sz7, sz8, sz9, ix_tup0, ix_tup1, ix_tup2, ix_tup3, ix_tup4, ix_tup5, ix_lst0, ix_lst1, ix_lst2, ix_lst3, ix_lst4, ix_lst5, ix_ctup0, ix_ctup1, ix_ctup2, ix_ctup3, ix_ctup4, ix_ctup5, px_left, px_turn, px_cells, f0, ps_turn, m1, ne_cells, he, Bool.not_false, List.length_map, mod_int hq, hc, decide_eq_false hb, m2, m4, m5, m6, m7, m8, m9, d1, d2, d3, d4, d5, d6, mod_int hs, gc_pen]
        exact ⟨_, _, _, rfl, Int.emod_nonneg _ ne, Int.emod_lt_of_pos _ hs, by omega, by omega⟩
end
end Pc

set_option Elab.async false
set_option linter.all false
set_option maxRecDepth 100000
set_option maxHeartbeats 2000000
set_option autoImplicit false
/-! Kp5: drawn numbers -/
namespace Pc
open PySem PySem.Spec PyProof.Rows L2
section
variable {R M : Mem} {ns : List Int} {t l : Int}
theorem at_lst {xs : List D} {i : Int} (h : 0 ≤ i) (h2 : i < xs.length) : ∃ x ∈ xs, idxS (.lst xs) (.int i) M = .ok (.val x) M := by
  have hlt : i.toNat < xs.length := by omega
  refine ⟨xs[i.toNat], List.getElem_mem hlt, ?_⟩
  have e : atI xs i = some xs[i.toNat] := by
    unfold atI ixN
    rw [if_pos h, if_pos (by omega), Option.bind_some, List.getElem?_eq_getElem hlt]
  show oV (atI xs i) M = _
  rw [e]
  rfl
theorem lg {n k : Nat} (h : n < 2 ^ k) (hk : 0 < k) : n.log2 < k := by
  by_cases h0 : n = 0
  · subst h0
    simpa using hk
  · exact (Nat.log2_lt h0).mpr h
theorem sp_pick (k : Nat) {xs : List D} (h0 : 0 < xs.length) (h1 : xs.length ≤ 100) (ht : 0 ≤ t) (ht2 : t < 2 ^ 40) (hl : ns.length ≤ 63) :
    ∃ x t' l', x ∈ xs ∧ (mkDy G T (k + 2)).call "_law_pick" [.ref 0, .lst xs] (pen ns t l :: R) = .ok (.val x) (pen ns t' l' :: R) ∧ 0 ≤ t' ∧ t' ≤ t + 1 := by
  obtain ⟨r, t', l', e, r0, r1, t0, t1⟩ := sp_draw (R := R) (l := l) k (s := (xs.length : Nat)) (by omega) (lg (k := 9000) (by rw [Int.natAbs_natCast]; exact Nat.lt_of_le_of_lt h1 (Nat.lt_of_lt_of_le (by decide : 100 < 2 ^ 7) (Nat.pow_le_pow_right (by decide) (by decide)))) (by decide)) ht ht2 hl
  obtain ⟨x, hx, ex⟩ := at_lst (M := pen ns t' l' :: R) (xs := xs) r0 r1
  refine ⟨x, t', l', hx, ?_, t0, t1⟩
  rw [c__law_pick]
  unfold m__law_pick
  simp only [bind_ok, map_ok, toS_ok, seq_nx, seq_rt, runS_nx, runS_rt, noX_ok, d_val, d_own, al_val, al_f, e_seq, e_next, e_ret, e_retN, e_ifS, e_set, e_drop, e_A, e_D, e_val, e_var0, e_varS, e_nil, e_cons, e_cmp, e_bin, e_blt, e_call, e_bl, blK_b, e_tru, trK_b, e_notT, e_andT, e_orT, e_and, andK_b, e_or, orK_b, e_not, notK_b, e_neg, negK_i, e_if, e_chain, chK_b, e_tup, e_lst, e_idx, e_attr, e_slice, e_noP, e_partE, ptK2_i, e_star, starK_lst, starK_tup, e_meth, ma_join, ma_split, ma_append, ma_pop, ma_index, meK_str, meK_lst, sl_tup, sl_lst, e_lc, e_for, e_iany, e_ienu, e_par, e_asg, e_sub, e_fld, stK_s, eq_int, ne_int, eq_str, ne_str, sOk_lit, sOk_numS, lt_int, le_int, gt_int, ge_int, in_sign, is_non, isNot_non, is_tup, isNot_tup, is_int, isNot_int, len_tup, len_ctup, len_lst, add_int, sub_int, int_int, abs_int, tuple_lst, tuple_tup, list_lst, list_tup, all_bls, o_lst, any_str, any_tup, any_lst, enu_tup, enu_lst, startE, List.map_cons, List.map_nil, List.length_cons, List.length_nil, List.replicate, List.nil_append, List.cons_append, List.set_cons_zero, List.set_cons_succ, Nat.reduceAdd, Nat.reduceSub, if_true, if_false, Bool.false_eq_true, ite_true, ite_false, sz0, sz1, sz2, sz3, sz4, sz5, sz6, sz7, sz8, sz9, ix_tup0, ix_tup1, ix_tup2, ix_tup3, ix_tup4, ix_tup5, ix_lst0, ix_lst1, ix_lst2, ix_lst3, ix_lst4, ix_lst5, ix_ctup0, ix_ctup1, ix_ctup2, ix_ctup3, ix_ctup4, ix_ctup5, e, ex, gc_pen]
theorem pow_6 : binS .Pow (.int 10) (.int 6) M = .ok (.val (.int (10 ^ 6))) M := by kernel_rfl
theorem mul_6 {f : Int} : binS .Mult (.int f) (.int (10 ^ 6)) M = .ok (.val (.int (f * 10 ^ 6))) M := mul_int (.inr (.inl (by decide)))
theorem sp_far_number (k : Nat) (ht : 0 ≤ t) (ht2 : t < 2 ^ 39) (hl : ns.length ≤ 63) :
    ∃ f t' l', (mkDy G T (k + 2)).call "_law_far_number" [.ref 0] (pen ns t l :: R) = .ok (.val (.int f)) (pen ns t' l' :: R) ∧ -(10 ^ 42) < f ∧ f < 10 ^ 42 ∧ 0 ≤ t' ∧ t' ≤ t + 8 := by
  have L := for_rng (i := 2) (n := 7) (a := mSeq (mSet false 1 (mBin .Add (mBin .Mult (mVar 1) (mBin .Pow (mVal (.int (10))) (mVal (.int (6))))) (mCall 2 ((mkDy G T (k + 1)).call "_law_draw") (mConsA false (mVar 0) (mConsA false (mBin .Pow (mVal (.int (10))) (mVal (.int (6)))) mNil))))) mNext)
    (P := fun j env M' => ∃ f t' l' x, M' = pen ns t' l' :: R ∧ env = [some (.ref 0), some (.int f), x] ∧ 0 ≤ f ∧ f < 10 ^ (6 * j) ∧ 0 ≤ t' ∧ t' ≤ t + j) (fun j env M' hj ⟨f, t', l', x, hM', he, f0, f1, t0, t1⟩ => by
      subst hM' he
      obtain ⟨r, t2, l2, e, r0, r1, s0, s1⟩ := sp_draw (R := R) (l := l') k (s := 10 ^ 6) (by decide) (by decide +kernel) t0 (by omega) hl
      refine ⟨[some (.ref 0), some (.int (f * 10 ^ 6 + r)), some (.int (j : Nat))], pen ns t2 l2 :: R, ?_, f * 10 ^ 6 + r, t2, l2, _, rfl, rfl, by omega, ?_, s0, by omega⟩
      · simp only [bind_ok, map_ok, toS_ok, seq_nx, seq_rt, runS_nx, runS_rt, noX_ok, d_val, d_own, al_val, al_f, e_seq, e_next, e_ret, e_retN, e_ifS, e_set, e_drop, e_A, e_D, e_val, e_var0, e_varS, e_nil, e_cons, e_cmp, e_bin, e_blt, e_call, e_bl, blK_b, e_tru, trK_b, e_notT, e_andT, e_orT, e_and, andK_b, e_or, orK_b, e_not, notK_b, e_neg, negK_i, e_if, e_chain, chK_b, e_tup, e_lst, e_idx, e_attr, e_slice, e_noP, e_partE, ptK2_i, e_star, starK_lst, starK_tup, e_meth, ma_join, ma_split, ma_append, ma_pop, ma_index, meK_str, meK_lst, sl_tup, sl_lst, e_lc, e_for, e_iany, e_ienu, e_par, e_asg, e_sub, e_fld, stK_s, eq_int, ne_int, eq_str, ne_str, sOk_lit, sOk_numS, lt_int, le_int, gt_int, ge_int, in_sign, is_non, isNot_non, is_tup, isNot_tup, is_int, isNot_int, len_tup, len_ctup, len_lst, add_int, sub_int, int_int, abs_int, tuple_lst, tuple_tup, list_lst, list_tup, all_bls, o_lst, any_str, any_tup, any_lst, enu_tup, enu_lst, startE, List.map_cons, List.map_nil, List.length_cons, List.length_nil, List.replicate, List.nil_append, List.cons_append, List.set_cons_zero, List.set_cons_succ, Nat.reduceAdd, Nat.reduceSub, if_true, if_false, Bool.false_eq_true, ite_true, ite_false, sz0, sz1, sz2, sz3, sz4, sz5, sz6, sz7, sz8, sz9, ix_tup0, ix_tup1, ix_tup2, ix_tup3, ix_tup4, ix_tup5, ix_lst0, ix_lst1, ix_lst2, ix_lst3, ix_lst4, ix_lst5, ix_ctup0, ix_ctup1, ix_ctup2, ix_ctup3, ix_ctup4, ix_ctup5, pow_6, mul_6, e]
      · have e6 : (10 : Int) ^ (6 * (j + 1)) = 10 ^ (6 * j) * 10 ^ 6 := by rw [show 6 * (j + 1) = 6 * j + 6 from by omega, Int.pow_add]
        rw [e6]
        have : (f + 1) * 10 ^ 6 ≤ 10 ^ (6 * j) * 10 ^ 6 := Int.mul_le_mul_of_nonneg_right (by omega) (by decide)
        omega) 7 0 [some (.ref 0), some (.int 0), none] (pen ns t l :: R) rfl ⟨0, t, l, none, rfl, rfl, by omega, by decide, ht, by omega⟩
  obtain ⟨env', M', h1, f, t', l', x, rfl, rfl, f0, f1, t0, t1⟩ := L
  obtain ⟨r, t2, l2, e, r0, r1, s0, s1⟩ := sp_draw (R := R) (l := l') k (s := 2) (by decide) (by decide +kernel) t0 (by omega) hl
  refine ⟨if (r == 0) = true then -f else f, t2, l2, ?_, ?_, ?_, s0, by omega⟩
  · rw [c__law_far_number]
    unfold m__law_far_number
    simp only [bind_ok, map_ok, toS_ok, seq_nx, seq_rt, runS_nx, runS_rt, noX_ok, d_val, d_own, al_val, al_f, e_seq, e_next, e_ret, e_retN, e_ifS, e_set, e_drop, e_A, e_D, e_val, e_var0, e_varS, e_nil, e_cons, e_cmp, e_bin, e_blt, e_call, e_bl, blK_b, e_tru, trK_b, e_notT, e_andT, e_orT, e_and, andK_b, e_or, orK_b, e_not, notK_b, e_neg, negK_i, e_if, e_chain, chK_b, e_tup, e_lst, e_idx, e_attr, e_slice, e_noP, e_partE, ptK2_i, e_star, starK_lst, starK_tup, e_meth, ma_join, ma_split, ma_append, ma_pop, ma_index, meK_str, meK_lst, sl_tup, sl_lst, e_lc, e_for, e_iany, e_ienu, e_par, e_asg, e_sub, e_fld, stK_s, eq_int, ne_int, eq_str, ne_str, sOk_lit, sOk_numS, lt_int, le_int, gt_int, ge_int, in_sign, is_non, isNot_non, is_tup, isNot_tup, is_int, isNot_int, len_tup, len_ctup, len_lst, add_int, sub_int, int_int, abs_int, tuple_lst, tuple_tup, list_lst, list_tup, all_bls, o_lst, any_str, any_tup, any_lst, enu_tup, enu_lst, startE, List.map_cons, List.map_nil, List.length_cons, List.length_nil, List.replicate, List.nil_append, List.cons_append, List.set_cons_zero, List.set_cons_succ, Nat.reduceAdd, Nat.reduceSub, if_true, if_false, Bool.false_eq_true, ite_true, ite_false, sz0, sz1, sz2, sz3, sz4, sz5, sz6, sz7, sz8, sz9, ix_tup0, ix_tup1, ix_tup2, ix_tup3, ix_tup4, ix_tup5, ix_lst0, ix_lst1, ix_lst2, ix_lst3, ix_lst4, ix_lst5, ix_ctup0, ix_ctup1, ix_ctup2, ix_ctup3, ix_ctup4, ix_ctup5, e_irng1, rng_7]
    rw [h1]
    simp only [bind_ok, map_ok, toS_ok, seq_nx, seq_rt, runS_nx, runS_rt, noX_ok, d_val, d_own, al_val, al_f, e_seq, e_next, e_ret, e_retN, e_ifS, e_set, e_drop, e_A, e_D, e_val, e_var0, e_varS, e_nil, e_cons, e_cmp, e_bin, e_blt, e_call, e_bl, blK_b, e_tru, trK_b, e_notT, e_andT, e_orT, e_and, andK_b, e_or, orK_b, e_not, notK_b, e_neg, negK_i, e_if, e_chain, chK_b, e_tup, e_lst, e_idx, e_attr, e_slice, e_noP, e_partE, ptK2_i, e_star, starK_lst, starK_tup, e_meth, ma_join, ma_split, ma_append, ma_pop, ma_index, meK_str, meK_lst, sl_tup, sl_lst, e_lc, e_for, e_iany, e_ienu, e_par, e_asg, e_sub, e_fld, stK_s, eq_int, ne_int, eq_str, ne_str, sOk_lit, sOk_numS, lt_int, le_int, gt_int, ge_int, in_sign, is_non, isNot_non, is_tup, isNot_tup, is_int, isNot_int, len_tup, len_ctup, len_lst, add_int, sub_int, int_int, abs_int, tuple_lst, tuple_tup, list_lst, list_tup, all_bls, o_lst, any_str, any_tup, any_lst, enu_tup, enu_lst, startE, List.map_cons, List.map_nil, List.length_cons, List.length_nil, List.replicate, List.nil_append, List.cons_append, List.set_cons_zero, List.set_cons_succ, Nat.reduceAdd, Nat.reduceSub, if_true, if_false, Bool.false_eq_true, ite_true, ite_false, sz0, sz1, sz2, sz3, sz4, sz5, sz6, sz7, sz8, sz9, ix_tup0, ix_tup1, ix_tup2, ix_tup3, ix_tup4, ix_tup5, ix_lst0, ix_lst1, ix_lst2, ix_lst3, ix_lst4, ix_lst5, ix_ctup0, ix_ctup1, ix_ctup2, ix_ctup3, ix_ctup4, ix_ctup5, e]
    cases (r == 0) <;> simp only [bind_ok, map_ok, toS_ok, seq_nx, seq_rt, runS_nx, runS_rt, noX_ok, d_val, d_own, al_val, al_f, e_seq, e_next, e_ret, e_retN, e_ifS, e_set, e_drop, e_A, e_D, e_val, e_var0, e_varS, e_nil, e_cons, e_cmp, e_bin, e_blt, e_call, e_bl, blK_b, e_tru, trK_b, e_notT, e_andT, e_orT, e_and, andK_b, e_or, orK_b, e_not, notK_b, e_neg, negK_i, e_if, e_chain, chK_b, e_tup, e_lst, e_idx, e_attr, e_slice, e_noP, e_partE, ptK2_i, e_star, starK_lst, starK_tup, e_meth, ma_join, ma_split, ma_append, ma_pop, ma_index, meK_str, meK_lst, sl_tup, sl_lst, e_lc, e_for, e_iany, e_ienu, e_par, e_asg, e_sub, e_fld, stK_s, eq_int, ne_int, eq_str, ne_str, sOk_lit, sOk_numS, lt_int, le_int, gt_int, ge_int, in_sign, is_non, isNot_non, is_tup, isNot_tup, is_int, isNot_int, len_tup, len_ctup, len_lst, add_int, sub_int, int_int, abs_int, tuple_lst, tuple_tup, list_lst, list_tup, all_bls, o_lst, any_str, any_tup, any_lst, enu_tup, enu_lst, startE, List.map_cons, List.map_nil, List.length_cons, List.length_nil, List.replicate, List.nil_append, List.cons_append, List.set_cons_zero, List.set_cons_succ, Nat.reduceAdd, Nat.reduceSub, if_true, if_false, Bool.false_eq_true, ite_true, ite_false, sz0, sz1, sz2, sz3, sz4, sz5, sz6, sz7, sz8, sz9, ix_tup0, ix_tup1, ix_tup2, ix_tup3, ix_tup4, ix_tup5, ix_lst0, ix_lst1, ix_lst2, ix_lst3, ix_lst4, ix_lst5, ix_ctup0, ix_ctup1, ix_ctup2, ix_ctup3, ix_ctup4, ix_ctup5, gc_pen]
  · have f1 : f < 10 ^ 42 := f1
    split <;> omega
  · have f1 : f < 10 ^ 42 := f1
    split <;> omega
end
end Pc

set_option Elab.async false
set_option linter.all false
set_option maxRecDepth 100000
set_option maxHeartbeats 2000000
set_option autoImplicit false
/-! Kp6: drawn words -/
namespace Pc
open PySem PySem.Spec PyProof.Rows L2
abbrev abc : Str := "abcdefghijklmnopqrstuvwxyz"
theorem abc_tl : (abc.cps.toList : List Nat) = List.range' 97 26 := by decide +kernel
/-- made of letters -/
def Lts (w : Str) : Prop := ∀ c ∈ w.cps.toList, 97 ≤ c ∧ c < 123
theorem in_abc {c : Nat} (h : 97 ≤ c ∧ c < 123) : c ∈ abc.cps.toList := by
  rw [abc_tl, List.mem_range'_1]
  omega
theorem Lts.ok {w : Str} (h : Lts w) : sOk w := by
  unfold sOk PyData.strOk
  rw [← Array.all_toList, List.all_eq_true]
  intro c hc
  have := h c hc
  simp
  omega
def barred : List Str := ["input", "load", "store", "set", "join", "part", "each", "copy", "up", "down", "fill", "step", "when", "else", "end", "times", "give", "call", "to", "from", "upto", "is", "apart", "by"]
theorem bar_ok : SeqAt.shaped (.list (barred.map PyData.str)) = true := by decide +kernel
section
variable {M R : Mem} {ns : List Int} {t l : Int} {w : Str}
theorem sp_barred (k : Nat) : (mkDy G T (k + 1)).call "_law_barred" [] M = .ok (.own (.lst (barred.map D.str))) M := by
  rw [c__law_barred]
  have e : runS (m__law_barred (mkDy G T k) (startE ["words"] []) M) = .ok (.own (.lst (barred.map D.str))) M := by kernel_rfl
  rw [e]
  exact gc_own' _ _
theorem notin_bar (h : sOk w) : ∃ b, cmpS .NotIn (.str w) (.lst (barred.map D.str)) M = .ok (.val (.bl b)) M := by
  have e : inO (.str w) (.lst (barred.map D.str)) M = some ((barred.map PyData.str).any fun z => z.eqv (.str w)) := by
    show (match pyL (barred.map D.str) with
      | some l => if SeqAt.shaped (.str w) = true ∧ SeqAt.shaped (PyData.list l) = true then some (l.any fun z => z.eqv (.str w)) else none
      | none => none) = _
    rw [show pyL (barred.map D.str) = some (barred.map PyData.str) from by kernel_rfl]
    dsimp only
    rw [if_pos ⟨sh_str h, bar_ok⟩]
  refine ⟨!((barred.map PyData.str).any fun z => z.eqv (.str w)), ?_⟩
  show rB ((inO (.str w) (.lst (barred.map D.str)) M).map not) M = _
  rw [e]
  rfl
theorem notin_sign (c : Nat) (z : Str) : cmpS .NotIn (.str ⟨#[c]⟩) (.str z) M = .ok (.val (.bl (!decide (c ∈ z.cps.toList)))) M := rfl
theorem lc_odd {a0 a1 a2 : Option D} (h : Lts w) (hz : w.length ≤ 1000) : lcL (gStr w) (gN 2) (mBl (mCmp .NotIn (mVar 2) (mVal (.str abc)))) (mA false (mVar 2)) [2] [a0, a1, a2] w.cps.size 0 M [] = .ok [] M := by
  have key := lc_pure (g := gStr w) (tg := gN 2) (t := mBl (mCmp .NotIn (mVar 2) (mVal (.str abc)))) (e := mA false (mVar 2)) (vs := [2]) (env := [a0, a1, a2]) (M := M) (sgns w) (fun _ => false) id (g_str w) (by rw [sgns_len, sizeLine_eq]; have : w.cps.size ≤ 1000 := hz; omega) (fun x hx => by
    unfold sgns at hx
    obtain ⟨c, hc, rfl⟩ := List.mem_map.mp hx
    refine ⟨[(2, _)], rfl, rfl, ?_, fun z => by cases z⟩
    have e : decide (c ∈ abc.cps.toList) = true := decide_eq_true (in_abc (h c hc))
    show mBl (mCmp .NotIn (mVar 2) (mVal (.str abc))) [a0, a1, some (.str ⟨#[c]⟩)] M = _
    simp only [bind_ok, map_ok, toS_ok, seq_nx, seq_rt, runS_nx, runS_rt, noX_ok, d_val, d_own, al_val, al_f, e_seq, e_next, e_ret, e_retN, e_ifS, e_set, e_drop, e_A, e_D, e_val, e_var0, e_varS, e_nil, e_cons, e_cmp, e_bin, e_blt, e_call, e_bl, blK_b, e_tru, trK_b, e_notT, e_andT, e_orT, e_and, andK_b, e_or, orK_b, e_not, notK_b, e_neg, negK_i, e_if, e_chain, chK_b, e_tup, e_lst, e_idx, e_attr, e_slice, e_noP, e_partE, ptK2_i, e_star, starK_lst, starK_tup, e_meth, ma_join, ma_split, ma_append, ma_pop, ma_index, meK_str, meK_lst, sl_tup, sl_lst, e_lc, e_for, e_iany, e_ienu, e_par, e_asg, e_sub, e_fld, stK_s, eq_int, ne_int, eq_str, ne_str, sOk_lit, sOk_numS, lt_int, le_int, gt_int, ge_int, in_sign, is_non, isNot_non, is_tup, isNot_tup, is_int, isNot_int, len_tup, len_ctup, len_lst, add_int, sub_int, int_int, abs_int, tuple_lst, tuple_tup, list_lst, list_tup, all_bls, o_lst, any_str, any_tup, any_lst, enu_tup, enu_lst, startE, List.map_cons, List.map_nil, List.length_cons, List.length_nil, List.replicate, List.nil_append, List.cons_append, List.set_cons_zero, List.set_cons_succ, Nat.reduceAdd, Nat.reduceSub, if_true, if_false, Bool.false_eq_true, ite_true, ite_false, sz0, sz1, sz2, sz3, sz4, sz5, sz6, sz7, sz8, sz9, ix_tup0, ix_tup1, ix_tup2, ix_tup3, ix_tup4, ix_tup5, ix_lst0, ix_lst1, ix_lst2, ix_lst3, ix_lst4, ix_lst5, ix_ctup0, ix_ctup1, ix_ctup2, ix_ctup3, ix_ctup4, ix_ctup5, notin_sign, e, Bool.not_true])
  rw [sgns_len] at key
  rw [key]
  simp
theorem eq_nil : cmpS .Eq (.lst []) (.lst []) M = .ok (.val (.bl true)) M := by
  show rB (eqO (.lst []) (.lst []) M) M = _
  have e : eqO (.lst []) (.lst []) M = some true := by
    show (if SeqAt.shaped (PyData.list []) = true ∧ SeqAt.shaped (PyData.list []) = true then some (PyData.eqv (.list []) (.list [])) else none) = _
    rw [if_pos ⟨sh_ints [], sh_ints []⟩]
    simp [PyData.eqv, PyData.eqvAll]
  rw [e]
  rfl
theorem sp_is_name (k : Nat) (h : Lts w) (h1 : 1 ≤ w.length) (h2 : w.length ≤ 12) : ∃ b, (mkDy G T (k + 2)).call "_law_is_name" [.str w] M = .ok (.val (.bl b)) M := by
  obtain ⟨b, hb⟩ := notin_bar (M := M) h.ok
  have e1 : decide ((1 : Int) ≤ (w.length : Int)) = true := decide_eq_true (by omega)
  have e2 : decide ((w.length : Int) ≤ 12) = true := decide_eq_true (by omega)
  refine ⟨b, ?_⟩
  rw [c__law_is_name]
  unfold m__law_is_name
  simp only [bind_ok, map_ok, toS_ok, seq_nx, seq_rt, runS_nx, runS_rt, noX_ok, d_val, d_own, al_val, al_f, e_seq, e_next, e_ret, e_retN, e_ifS, e_set, e_drop, e_A, e_D, e_val, e_var0, e_varS, e_nil, e_cons, e_cmp, e_bin, e_blt, e_call, e_bl, blK_b, e_tru, trK_b, e_notT, e_andT, e_orT, e_and, andK_b, e_or, orK_b, e_not, notK_b, e_neg, negK_i, e_if, e_chain, chK_b, e_tup, e_lst, e_idx, e_attr, e_slice, e_noP, e_partE, ptK2_i, e_star, starK_lst, starK_tup, e_meth, ma_join, ma_split, ma_append, ma_pop, ma_index, meK_str, meK_lst, sl_tup, sl_lst, e_lc, e_for, e_iany, e_ienu, e_par, e_asg, e_sub, e_fld, stK_s, eq_int, ne_int, eq_str, ne_str, sOk_lit, sOk_numS, lt_int, le_int, gt_int, ge_int, in_sign, is_non, isNot_non, is_tup, isNot_tup, is_int, isNot_int, len_tup, len_ctup, len_lst, add_int, sub_int, int_int, abs_int, tuple_lst, tuple_tup, list_lst, list_tup, all_bls, o_lst, any_str, any_tup, any_lst, enu_tup, enu_lst, startE, List.map_cons, List.map_nil, List.length_cons, List.length_nil, List.replicate, List.nil_append, List.cons_append, List.set_cons_zero, List.set_cons_succ, Nat.reduceAdd, Nat.reduceSub, if_true, if_false, Bool.false_eq_true, ite_true, ite_false, sz0, sz1, sz2, sz3, sz4, sz5, sz6, sz7, sz8, sz9, ix_tup0, ix_tup1, ix_tup2, ix_tup3, ix_tup4, ix_tup5, ix_lst0, ix_lst1, ix_lst2, ix_lst3, ix_lst4, ix_lst5, ix_ctup0, ix_ctup1, ix_ctup2, ix_ctup3, ix_ctup4, ix_ctup5, len_str (show w.length ≤ sizeLine by rw [sizeLine_eq]; omega), e1, e2, lc_odd h (by omega), eq_nil, sp_barred, hb, gc_same]
end
end Pc

set_option Elab.async false
set_option linter.all false
set_option maxRecDepth 100000
set_option maxHeartbeats 2000000
set_option autoImplicit false
/-! Kp7: a drawn word -/
namespace Pc
open PySem PySem.Spec PyProof.Rows L2
def sg (c : Nat) : D := .str ⟨#[c]⟩
section
variable {M R : Mem} {ns : List Int} {t l : Int}
theorem abc_at {r : Int} (h0 : 0 ≤ r) (h1 : r < 26) : ∃ c, (97 ≤ c ∧ c < 123) ∧ idxS (.str abc) (.int r) M = .ok (.val (sg c)) M := by
  have hl : abc.cps.toList.length = 26 := by decide +kernel
  have hlt : r.toNat < abc.cps.toList.length := by omega
  have all : ∀ c ∈ abc.cps.toList, 97 ≤ c ∧ c < 123 := by
    rw [abc_tl]
    intro c hc
    rw [List.mem_range'_1] at hc
    omega
  have hc := all _ (List.getElem_mem hlt)
  refine ⟨abc.cps.toList[r.toNat], hc, ?_⟩
  have e : atI abc.cps.toList r = some abc.cps.toList[r.toNat] := by
    unfold atI ixN
    rw [if_pos h0, if_pos (by omega), Option.bind_some, List.getElem?_eq_getElem hlt]
  show (if abc.length ≤ sizeLine then oV ((atI abc.cps.toList r).map fun c => D.str ⟨#[c]⟩) M else .stuck) = _
  rw [if_pos (by rw [sizeLine_eq]; decide +kernel), e]
  rfl
theorem lc_word (k : Nat) {n : Nat} (hn : n ≤ 100) (hl : ns.length ≤ 63) {a1 a3 a4 a5 a6 a7 a8 a9 a10 : Option D} : ∀ (f j : Nat) (t l : Int) (ys : List Nat), f + j = n → ys.length = j → (∀ c ∈ ys, 97 ≤ c ∧ c < 123) → 0 ≤ t → t + f < 2 ^ 39 →
    ∃ (ys' : List Nat) (t' l' : Int), lcL (gRng 0 n) (gN 7) mYes (mA false (mIdx (mVar 2) (mCall 2 ((mkDy G T (k + 1)).call "_law_draw") (mConsA false (mVar 0) (mConsA false (mVal (.int (26))) mNil))))) [7] [some (.ref 0), a1, some (.str abc), a3, a4, a5, a6, a7, a8, a9, a10] f j (pen ns t l :: R) (ys.map sg) = .ok (ys'.map sg) (pen ns t' l' :: R) ∧ ys'.length = n ∧ (∀ c ∈ ys', 97 ≤ c ∧ c < 123) ∧ 0 ≤ t' ∧ t' ≤ t + f
  | 0, j, t, l, ys, hk, hy, hc, h0, h1 => by
    have e : j = n := by omega
    subst e
    refine ⟨ys, t, l, ?_, hy, hc, h0, by omega⟩
    unfold lcL gRng
    simp
  | f + 1, j, t, l, ys, hk, hy, hc, h0, h1 => by
    have hlt : j < n := by omega
    obtain ⟨r, t1, l1, e, r0, r1, s0, s1⟩ := sp_draw (R := R) (l := l) k (s := 26) (by decide) (by decide +kernel) h0 (by omega) hl
    obtain ⟨c, hcc, ec⟩ := abc_at (M := pen ns t1 l1 :: R) r0 r1
    obtain ⟨ys', t', l', h2, h3, h4, h5, h6⟩ := lc_word k hn hl f (j + 1) t1 l1 (ys ++ [c]) (by omega) (by simp [hy]) (fun x hx => (List.mem_append.mp hx).elim (hc x) fun z => by rw [List.mem_singleton.mp z]; exact hcc) s0 (by omega)
    refine ⟨ys', t', l', ?_, h3, h4, h5, by omega⟩
    rw [← h2]
    have g : gRng 0 n (pen ns t l :: R) j = some (some (.int (j : Nat))) := by
      unfold gRng
      simp [hlt]
    have el : (mA false (mIdx (mVar 2) (mCall 2 ((mkDy G T (k + 1)).call "_law_draw") (mConsA false (mVar 0) (mConsA false (mVal (.int (26))) mNil))))) [some (.ref 0), a1, some (.str abc), a3, a4, a5, a6, some (.int (j : Nat)), a8, a9, a10] (pen ns t l :: R) = .ok (sg c) (pen ns t1 l1 :: R) := by
      simp only [bind_ok, map_ok, toS_ok, seq_nx, seq_rt, runS_nx, runS_rt, noX_ok, d_val, d_own, al_val, al_f, e_seq, e_next, e_ret, e_retN, e_ifS, e_set, e_drop, e_A, e_D, e_val, e_var0, e_varS, e_nil, e_cons, e_cmp, e_bin, e_blt, e_call, e_bl, blK_b, e_tru, trK_b, e_notT, e_andT, e_orT, e_and, andK_b, e_or, orK_b, e_not, notK_b, e_neg, negK_i, e_if, e_chain, chK_b, e_tup, e_lst, e_idx, e_attr, e_slice, e_noP, e_partE, ptK2_i, e_star, starK_lst, starK_tup, e_meth, ma_join, ma_split, ma_append, ma_pop, ma_index, meK_str, meK_lst, sl_tup, sl_lst, e_lc, e_for, e_iany, e_ienu, e_par, e_asg, e_sub, e_fld, stK_s, eq_int, ne_int, eq_str, ne_str, sOk_lit, sOk_numS, lt_int, le_int, gt_int, ge_int, in_sign, is_non, isNot_non, is_tup, isNot_tup, is_int, isNot_int, len_tup, len_ctup, len_lst, add_int, sub_int, int_int, abs_int, tuple_lst, tuple_tup, list_lst, list_tup, all_bls, o_lst, any_str, any_tup, any_lst, enu_tup, enu_lst, startE, List.map_cons, List.map_nil, List.length_cons, List.length_nil, List.replicate, List.nil_append, List.cons_append, List.set_cons_zero, List.set_cons_succ, Nat.reduceAdd, Nat.reduceSub, if_true, if_false, Bool.false_eq_true, ite_true, ite_false, sz0, sz1, sz2, sz3, sz4, sz5, sz6, sz7, sz8, sz9, ix_tup0, ix_tup1, ix_tup2, ix_tup3, ix_tup4, ix_tup5, ix_lst0, ix_lst1, ix_lst2, ix_lst3, ix_lst4, ix_lst5, ix_ctup0, ix_ctup1, ix_ctup2, ix_ctup3, ix_ctup4, ix_ctup5, e, ec]
    have sz : (ys.map sg).length < sizeLine := by rw [List.length_map, sizeLine_eq]; omega
    have step : lcL (gRng 0 n) (gN 7) mYes (mA false (mIdx (mVar 2) (mCall 2 ((mkDy G T (k + 1)).call "_law_draw") (mConsA false (mVar 0) (mConsA false (mVal (.int (26))) mNil))))) [7] [some (.ref 0), a1, some (.str abc), a3, a4, a5, a6, a7, a8, a9, a10] (f + 1) j (pen ns t l :: R) (ys.map sg) =
        (match gRng 0 n (pen ns t l :: R) j with
        | none => .stuck
        | some none => .ok (ys.map sg) (pen ns t l :: R)
        | some (some d) => (noX ((mA false (mIdx (mVar 2) (mCall 2 ((mkDy G T (k + 1)).call "_law_draw") (mConsA false (mVar 0) (mConsA false (mVal (.int (26))) mNil))))) [some (.ref 0), a1, some (.str abc), a3, a4, a5, a6, some d, a8, a9, a10] (pen ns t l :: R))).bind fun d M2 => if (ys.map sg).length < sizeLine then lcL (gRng 0 n) (gN 7) mYes (mA false (mIdx (mVar 2) (mCall 2 ((mkDy G T (k + 1)).call "_law_draw") (mConsA false (mVar 0) (mConsA false (mVal (.int (26))) mNil))))) [7] [some (.ref 0), a1, some (.str abc), a3, a4, a5, a6, a7, a8, a9, a10] f (j + 1) M2 (ys.map sg ++ [d]) else .stuck) := by
      rw [lcL]
      rfl
    rw [step, g]
    dsimp only
    rw [el, noX_ok, bind_ok, if_pos sz, List.map_append]
    rfl
end
end Pc

set_option Elab.async false
set_option linter.all false
set_option maxRecDepth 100000
set_option maxHeartbeats 2000000
set_option autoImplicit false
/-! Kp8: _law_new_words(pen, 1) -/
namespace Pc
open PySem PySem.Spec PyProof.Rows L2
section
variable {M R : Mem} {ns : List Int} {t l : Int} {w : Str} {i : Nat}
theorem inO_none (h : sOk w) (hi : M[i]? = some (.lst [])) : inO (.str w) (.ref i) M = some false := by
  have e : seqL M (.ref i) = some [] := by
    unfold seqL
    simp only [hi]
  show (match seqL M (.ref i) with
    | some xs => (match (D.str w).py M, pyL xs with
      | some p, some l => if SeqAt.shaped p = true ∧ SeqAt.shaped (PyData.list l) = true then some (l.any fun z => z.eqv p) else none
      | _, _ => none)
    | none => (dGet M (.ref i) (.str w)).map Option.isSome) = _
  rw [e]
  show (if SeqAt.shaped (PyData.str w) = true ∧ SeqAt.shaped (PyData.list []) = true then some (([] : List PyData).any fun z => z.eqv (.str w)) else none) = _
  rw [if_pos ⟨sh_str h, sh_ints []⟩]
  rfl
theorem in_none (h : sOk w) (hi : M[i]? = some (.lst [])) : cmpS .In (.str w) (.ref i) M = .ok (.val (.bl false)) M := by
  show rB (inO (.str w) (.ref i) M) M = _
  rw [inO_none h hi]
  rfl
theorem notin_none (h : sOk w) (hi : M[i]? = some (.lst [])) : cmpS .NotIn (.str w) (.ref i) M = .ok (.val (.bl true)) M := by
  show rB ((inO (.str w) (.ref i) M).map not) M = _
  rw [inO_none h hi]
  rfl
/-- the letters joined -/
theorem join_sg (ys : List Nat) (h : ys.length ≤ 100) (hc : ∀ c ∈ ys, 97 ≤ c ∧ c < 123) : ∃ w, joinS (.str "") [.lst (ys.map sg)] M = .ok (.val (.str w)) M ∧ Lts w ∧ w.length = ys.length := by
  have e : ys.map sg = (ys.map fun c => SX.S [c]).map D.str := by
    rw [List.map_map]
    rfl
  have hs : ((ys.map fun c => SX.S [c]).map fun y : Str => y.length).sum + (ys.map fun c => SX.S [c]).length * Str.length "" ≤ 16777216 := by
    have z : ∀ l : List Nat, ((l.map fun c => SX.S [c]).map fun y : Str => y.length).sum = l.length := by
      intro l
      induction l with
      | nil => rfl
      | cons a l ih =>
        rw [List.map_cons, List.map_cons, List.sum_cons, ih, List.length_cons]
        show 1 + l.length = l.length + 1
        omega
    rw [z]
    show ys.length + _ * 0 ≤ _
    omega
  have jl : ∀ l : List Nat, TL.joinL [] (l.map fun c => [c]) = l := by
    intro l
    induction l with
    | nil => rfl
    | cons a l ih =>
      cases l with
      | nil => rfl
      | cons b l =>
        show [a] ++ ([] ++ TL.joinL [] ((b :: l).map fun c => [c])) = a :: b :: l
        rw [ih]
        rfl
  have j : Txt.join "" (ys.map fun c => SX.S [c]) = SX.S ys := by
    have z := SX.join_S [] (ys.map fun c => [c])
    rw [jl, List.map_map] at z
    exact z
  refine ⟨SX.S ys, ?_, fun c hcc => hc c (by simpa using hcc), by show ys.toArray.size = _; simp⟩
  rw [e, join_lst hs, j]
end
end Pc

set_option Elab.async false
set_option linter.all false
set_option maxRecDepth 100000
set_option maxHeartbeats 4000000
set_option autoImplicit false
/-! Kp9: _law_new_words(pen, 1), whole -/
namespace Pc
open PySem PySem.Spec PyProof.Rows L2
section
variable {M R : Mem} {ns : List Int} {t l : Int} {w : Str} {i : Nat}
theorem as2 {e : Sl} {a b : Nat} {x y : D} : asK (gT 2 (gsCons (gN a) (gsCons (gN b) gsNil))) e (.tup [x, y]) M = .nx ((e.set a (some x)).set b (some y)) M := rfl
theorem at_new {o : MO} : (pen ns t l :: (R ++ [o]))[R.length + 1]? = some o := by simp
theorem app_pen {xs : List D} {d : D} (h : xs.length < sizeLine) : appendS (.ref (R.length + 1)) [d] (pen ns t l :: (R ++ [.lst xs])) = .ok (.val .non) (pen ns t l :: (R ++ [.lst (xs ++ [d])])) := app_cat (M := pen ns t l :: R) h
theorem meK_pen {xs : List D} {e : Sl} {ms : MDs} {own : OwnM} {nm : Str} (f : D → List D → Mem → Pc.R RV) : meK [("list", f)] own nm ms e (.ref (R.length + 1)) (pen ns t l :: (R ++ [.lst xs])) = (ms e (pen ns t l :: (R ++ [.lst xs]))).bind fun ds M2 => f (.ref (R.length + 1)) ds M2 := meK_cat (M := pen ns t l :: R) f
def prs : List Str := ["aa", "bb", "cc", "dd", "ee", "ff", "gg", "hh", "ii", "jj", "kk", "ll", "mm", "nn", "oo", "pp", "qq", "rr", "ss", "tt", "uu", "vv", "ww", "xx", "yy", "zz"]
theorem lc_prs {a0 a1 a2 a3 a4 a5 a6 a7 a8 a9 a10 : Option D} : lcL (gStr abc) (gN 9) mYes (mA false (mBin .Add (mVar 9) (mVar 9))) [9] [a0, a1, a2, a3, a4, a5, a6, a7, a8, a9, a10] abc.cps.size 0 M [] = .ok (prs.map D.str) M := by kernel_rfl
theorem prs_ok : ∀ p ∈ prs, sOk p := List.all_eq_true.mp (show prs.all PyData.strOk = true by decide +kernel)
theorem lc_free (hi : M[i]? = some (.lst [])) {a0 a1 a2 a4 a5 a6 a7 a8 a9 a10 : Option D} : lcL (gSeq (.lst (prs.map D.str))) (gN 10) (mBl (mCmp .NotIn (mVar 10) (mVar 3))) (mA false (mVar 10)) [10] [a0, a1, a2, some (.ref i), a4, a5, a6, a7, a8, a9, a10] (prs.map D.str).length 0 M [] = .ok (prs.map D.str) M := by
  rw [lc_pure (prs.map D.str) (fun _ => true) id (g_lst _) (by rw [sizeLine_eq]; decide)]
  · simp
  · intro d hd
    obtain ⟨p, hp, rfl⟩ := List.mem_map.mp hd
    refine ⟨[(10, _)], rfl, rfl, ?_, fun _ => rfl⟩
    show mBl (mCmp .NotIn (mVar 10) (mVar 3)) [a0, a1, a2, some (.ref i), a4, a5, a6, a7, a8, a9, some (.str p)] M = _
    simp only [bind_ok, map_ok, toS_ok, seq_nx, seq_rt, runS_nx, runS_rt, noX_ok, d_val, d_own, al_val, al_f, e_seq, e_next, e_ret, e_retN, e_ifS, e_set, e_drop, e_A, e_D, e_val, e_var0, e_varS, e_nil, e_cons, e_cmp, e_bin, e_blt, e_call, e_bl, blK_b, e_tru, trK_b, e_notT, e_andT, e_orT, e_and, andK_b, e_or, orK_b, e_not, notK_b, e_neg, negK_i, e_if, e_chain, chK_b, e_tup, e_lst, e_idx, e_attr, e_slice, e_noP, e_partE, ptK2_i, e_star, starK_lst, starK_tup, e_meth, ma_join, ma_split, ma_append, ma_pop, ma_index, meK_str, meK_lst, sl_tup, sl_lst, e_lc, e_for, e_iany, e_ienu, e_par, e_asg, e_sub, e_fld, stK_s, eq_int, ne_int, eq_str, ne_str, sOk_lit, sOk_numS, lt_int, le_int, gt_int, ge_int, in_sign, is_non, isNot_non, is_tup, isNot_tup, is_int, isNot_int, len_tup, len_ctup, len_lst, add_int, sub_int, int_int, abs_int, tuple_lst, tuple_tup, list_lst, list_tup, all_bls, o_lst, any_str, any_tup, any_lst, enu_tup, enu_lst, startE, List.map_cons, List.map_nil, List.length_cons, List.length_nil, List.replicate, List.nil_append, List.cons_append, List.set_cons_zero, List.set_cons_succ, Nat.reduceAdd, Nat.reduceSub, if_true, if_false, Bool.false_eq_true, ite_true, ite_false, sz0, sz1, sz2, sz3, sz4, sz5, sz6, sz7, sz8, sz9, ix_tup0, ix_tup1, ix_tup2, ix_tup3, ix_tup4, ix_tup5, ix_lst0, ix_lst1, ix_lst2, ix_lst3, ix_lst4, ix_lst5, ix_ctup0, ix_ctup1, ix_ctup2, ix_ctup3, ix_ctup4, ix_ctup5, notin_none (prs_ok p hp) hi]
theorem put2' {e : Sl} {a b : Nat} {x y : D} : putE e [(a, x), (b, y)] = (e.set a (some x)).set b (some y) := rfl
theorem rng_1 : rng1S [.int 1] M = .ok (1, gRng 0 1) M := rng_ok (by decide +kernel) M
theorem cl_ints (ns : List Int) (n : Nat) : clL n (ns.map D.int) = true := by
  induction ns with
  | nil => rfl
  | cons a as ih => rw [List.map_cons, clL, ih]; rfl
theorem cl_pen (n : Nat) : clO n (pen ns t l) = true := by
  show (clL n (ns.map D.int) && (clD n (.int t) && (clD n (.int l) && true))) = true
  rw [cl_ints]
  rfl
theorem Cl.pen (h : Cl R) : Cl (pen ns t l :: R) := fun o ho n => (List.mem_cons.mp ho).elim (fun e => by rw [e]; exact cl_pen n) fun z => h o z n
theorem prs0 : idxS (.lst (prs.map D.str)) (.int 0) M = .ok (.val (.str "aa")) M := by kernel_rfl
theorem lts_aa : Lts "aa" := by
  intro c hc
  have z : c ∈ [97, 97] := hc
  simp at z
  omega
theorem gc_ref {o : MO} (h : Cl M) (ho : clO M.length o = true) : gcR M.length (.ok (.val (.ref M.length)) (M ++ [o])) = .ok (.own o) M := by
  unfold gcR
  dsimp only
  rw [List.take_left, if_pos (h.all _), if_neg (by show ¬ decide (M.length < M.length) = true; simp), at_cat]
  dsimp only
  rw [if_pos ⟨Nat.le_refl _, ho⟩]
/-- the turn of the loop -/
def wTurn (k : Nat) : MS := mSeq (mSet false 5 (mBin .Add (mVal (.int (1))) (mCall 2 ((mkDy G T (k + 2)).call "_law_pick") (mConsA false (mVar 0) (mConsA false (mLst (mConsA false (mVal (.int (0))) (mConsA false (mVal (.int (0))) (mConsA false (mVal (.int (1))) (mConsA false (mVal (.int (2))) (mConsA false (mVal (.int (11))) (mConsA false (mCall 2 ((mkDy G T (k + 2)).call "_law_draw") (mConsA false (mVar 0) (mConsA false (mVal (.int (12))) mNil))) mNil))))))) mNil))))) (mSeq (mSet false 6 (mMeth (methAlts "join") (ownG (mkDy G T (k + 2)) "join") "join" (mVal (.str "")) (mConsA false (mLc (mIRng1 (mConsA false (mVar 5) mNil)) (gN 7) mYes (mA false (mIdx (mVar 2) (mCall 2 ((mkDy G T (k + 2)).call "_law_draw") (mConsA false (mVar 0) (mConsA false (mVal (.int (26))) mNil))))) [7]) mNil))) (mSeq (mIfS (mOrT (mNotT (mTru (mCall 1 ((mkDy G T (k + 2)).call "_law_is_name") (mConsA false (mVar 6) mNil)))) (mBl (mCmp .In (mVar 6) (mVar 3)))) (mSeq (mSet false 8 (mLc (mIAny (mVar 2)) (gN 9) mYes (mA false (mBin .Add (mVar 9) (mVar 9))) [9])) (mSeq (mSet false 6 (mIdx (mLc (mIAny (mVar 8)) (gN 10) (mBl (mCmp .NotIn (mVar 10) (mVar 3))) (mA false (mVar 10)) [10]) (mVal (.int (0))))) mNext)) mNext) (mSeq (mDrop (mMeth (methAlts "append") (ownG (mkDy G T (k + 2)) "append") "append" (mVar 3) (mConsA false (mVar 6) mNil))) mNext)))
theorem w_turn (k : Nat) (ht : 0 ≤ t) (ht2 : t < 2 ^ 38) (hl : ns.length ≤ 63) : ∃ (env' : Sl) (w : Str) (t' l' : Int), wTurn k [some (.ref 0), some (.int 1), some (.str abc), some (.ref (R.length + 1)), some (.int 0), none, none, none, none, none, none] (pen ns t l :: (R ++ [.lst []])) = .nx (some (.ref 0) :: some (.int 1) :: some (.str abc) :: some (.ref (R.length + 1)) :: env') (pen ns t' l' :: (R ++ [.lst [.str w]])) ∧ Lts w ∧ 1 ≤ w.length ∧ w.length ≤ 12 ∧ 0 ≤ t' ∧ t' ≤ t + 20 := by
  obtain ⟨r1, t1, l1, e1, a0, a1, b0, b1⟩ := sp_draw (R := R ++ [.lst []]) (l := l) (k + 1) (s := 12) (by decide) (by decide +kernel) ht (by omega) hl
  obtain ⟨x, t2, l2, hx, e2, c0, c1⟩ := sp_pick (R := R ++ [.lst []]) (l := l1) (ns := ns) (t := t1) k (xs := [.int 0, .int 0, .int 1, .int 2, .int 11, .int r1]) (by show 0 < 6; decide) (by show 6 ≤ 100; decide) b0 (by omega) hl
  obtain ⟨v, rfl, v0, v1⟩ : ∃ v : Int, x = .int v ∧ 0 ≤ v ∧ v ≤ 11 := by
    simp only [List.mem_cons, List.not_mem_nil, or_false] at hx
    rcases hx with rfl | rfl | rfl | rfl | rfl | rfl
    · exact ⟨0, rfl, by omega, by omega⟩
    · exact ⟨0, rfl, by omega, by omega⟩
    · exact ⟨1, rfl, by omega, by omega⟩
    · exact ⟨2, rfl, by omega, by omega⟩
    · exact ⟨11, rfl, by omega, by omega⟩
    · exact ⟨r1, rfl, by omega, by omega⟩
  have hok : okI (1 + v) = true := by
    unfold okI
    rw [Bool.and_eq_true]
    exact ⟨decide_eq_true (by omega), decide_eq_true (by omega)⟩
  obtain ⟨ys, t3, l3, e3, y1, y2, d0, d1⟩ := lc_word (R := R ++ [.lst []]) (k + 1) (n := (1 + v).toNat) (by omega) hl (a1 := some (.int 1)) (a3 := some (.ref (R.length + 1))) (a4 := some (.int 0)) (a5 := some (.int (1 + v))) (a6 := none) (a7 := none) (a8 := none) (a9 := none) (a10 := none) (1 + v).toNat 0 t2 l2 [] (by omega) rfl (by simp) c0 (by omega)
  obtain ⟨w, e4, w1, w2⟩ := join_sg (M := pen ns t3 l3 :: (R ++ [.lst []])) ys (by omega) y2
  have hi : (pen ns t3 l3 :: (R ++ [.lst []]))[R.length + 1]? = some (.lst []) := at_new
  obtain ⟨b, e5⟩ := sp_is_name (M := pen ns t3 l3 :: (R ++ [.lst []])) k w1 (by omega) (by omega)
  rw [List.map_nil] at e3
  have sz : (0 < sizeLine) = True := by rw [sizeLine_eq]; simp
  unfold wTurn
  cases b with
  | true =>
    refine ⟨[some (.int 0), some (.int (1 + v)), some (.str w), none, none, none, none], w, t3, l3, ?_, w1, by omega, by omega, d0, by omega⟩
    simp only [bind_ok, map_ok, toS_ok, seq_nx, seq_rt, runS_nx, runS_rt, noX_ok, d_val, d_own, al_val, al_f, e_seq, e_next, e_ret, e_retN, e_ifS, e_set, e_drop, e_A, e_D, e_val, e_var0, e_varS, e_nil, e_cons, e_cmp, e_bin, e_blt, e_call, e_bl, blK_b, e_tru, trK_b, e_notT, e_andT, e_orT, e_and, andK_b, e_or, orK_b, e_not, notK_b, e_neg, negK_i, e_if, e_chain, chK_b, e_tup, e_lst, e_idx, e_attr, e_slice, e_noP, e_partE, ptK2_i, e_star, starK_lst, starK_tup, e_meth, ma_join, ma_split, ma_append, ma_pop, ma_index, meK_str, meK_lst, sl_tup, sl_lst, e_lc, e_for, e_iany, e_ienu, e_par, e_asg, e_sub, e_fld, stK_s, eq_int, ne_int, eq_str, ne_str, sOk_lit, sOk_numS, lt_int, le_int, gt_int, ge_int, in_sign, is_non, isNot_non, is_tup, isNot_tup, is_int, isNot_int, len_tup, len_ctup, len_lst, add_int, sub_int, int_int, abs_int, tuple_lst, tuple_tup, list_lst, list_tup, all_bls, o_lst, any_str, any_tup, any_lst, enu_tup, enu_lst, startE, List.map_cons, List.map_nil, List.length_cons, List.length_nil, List.replicate, List.nil_append, List.cons_append, List.set_cons_zero, List.set_cons_succ, Nat.reduceAdd, Nat.reduceSub, if_true, if_false, Bool.false_eq_true, ite_true, ite_false, sz0, sz1, sz2, sz3, sz4, sz5, sz6, sz7, sz8, sz9, ix_tup0, ix_tup1, ix_tup2, ix_tup3, ix_tup4, ix_tup5, ix_lst0, ix_lst1, ix_lst2, ix_lst3, ix_lst4, ix_lst5, ix_ctup0, ix_ctup1, ix_ctup2, ix_ctup3, ix_ctup4, ix_ctup5, e1, e2, e_irng1, rng_ok hok, e3, e4, e5, in_none w1.ok hi, meK_pen, app_pen, sz, Bool.not_true]
  | false =>
    refine ⟨[some (.int 0), some (.int (1 + v)), some (.str "aa"), none, some (.lst (prs.map D.str)), none, none], "aa", t3, l3, ?_, lts_aa, by decide, by decide, d0, by omega⟩
    simp only [bind_ok, map_ok, toS_ok, seq_nx, seq_rt, runS_nx, runS_rt, noX_ok, d_val, d_own, al_val, al_f, e_seq, e_next, e_ret, e_retN, e_ifS, e_set, e_drop, e_A, e_D, e_val, e_var0, e_varS, e_nil, e_cons, e_cmp, e_bin, e_blt, e_call, e_bl, blK_b, e_tru, trK_b, e_notT, e_andT, e_orT, e_and, andK_b, e_or, orK_b, e_not, notK_b, e_neg, negK_i, e_if, e_chain, chK_b, e_tup, e_lst, e_idx, e_attr, e_slice, e_noP, e_partE, ptK2_i, e_star, starK_lst, starK_tup, e_meth, ma_join, ma_split, ma_append, ma_pop, ma_index, meK_str, meK_lst, sl_tup, sl_lst, e_lc, e_for, e_iany, e_ienu, e_par, e_asg, e_sub, e_fld, stK_s, eq_int, ne_int, eq_str, ne_str, sOk_lit, sOk_numS, lt_int, le_int, gt_int, ge_int, in_sign, is_non, isNot_non, is_tup, isNot_tup, is_int, isNot_int, len_tup, len_ctup, len_lst, add_int, sub_int, int_int, abs_int, tuple_lst, tuple_tup, list_lst, list_tup, all_bls, o_lst, any_str, any_tup, any_lst, enu_tup, enu_lst, startE, List.map_cons, List.map_nil, List.length_cons, List.length_nil, List.replicate, List.nil_append, List.cons_append, List.set_cons_zero, List.set_cons_succ, Nat.reduceAdd, Nat.reduceSub, if_true, if_false, Bool.false_eq_true, ite_true, ite_false, sz0, sz1, sz2, sz3, sz4, sz5, sz6, sz7, sz8, sz9, ix_tup0, ix_tup1, ix_tup2, ix_tup3, ix_tup4, ix_tup5, ix_lst0, ix_lst1, ix_lst2, ix_lst3, ix_lst4, ix_lst5, ix_ctup0, ix_ctup1, ix_ctup2, ix_ctup3, ix_ctup4, ix_ctup5, e1, e2, e_irng1, rng_ok hok, e3, e4, e5, in_none w1.ok hi, Bool.not_false, lc_prs, lc_free hi, prs0, meK_pen, app_pen, sz]
theorem sp_new_words (k : Nat) (hR : Cl R) (ht : 0 ≤ t) (ht2 : t < 2 ^ 38) (hl : ns.length ≤ 63) : ∃ (w : Str) (t' l' : Int), (mkDy G T (k + 3)).call "_law_new_words" [.ref 0, .int 1] (pen ns t l :: R) = .ok (.own (.lst [.str w])) (pen ns t' l' :: R) ∧ Lts w ∧ 1 ≤ w.length ∧ w.length ≤ 12 ∧ 0 ≤ t' ∧ t' ≤ t + 20 := by
  obtain ⟨env', w, t', l', e, w1, w2, w3, t0, t1⟩ := w_turn (R := R) (l := l) k ht ht2 hl
  have L := for_rng (i := 4) (n := 1) (a := wTurn k) (P := fun j env M => (j = 0 → env = [some (.ref 0), some (.int 1), some (.str abc), some (.ref (R.length + 1)), none, none, none, none, none, none, none] ∧ M = pen ns t l :: (R ++ [.lst []])) ∧
      (j = 1 → ∃ env', env = some (.ref 0) :: some (.int 1) :: some (.str abc) :: some (.ref (R.length + 1)) :: env' ∧ M = pen ns t' l' :: (R ++ [.lst [.str w]]))) (fun j env M hj h => by
      obtain rfl : j = 0 := by omega
      obtain ⟨rfl, rfl⟩ := h.1 rfl
      exact ⟨_, _, e, fun z => by omega, fun _ => ⟨env', rfl, rfl⟩⟩) 1 0 _ _ rfl ⟨fun _ => ⟨rfl, rfl⟩, fun z => by omega⟩
  obtain ⟨env2, M2, h1, h2⟩ := L
  obtain ⟨env3, rfl, rfl⟩ := h2.2 rfl
  refine ⟨w, t', l', ?_, w1, w2, w3, t0, t1⟩
  rw [c__law_new_words]
  unfold m__law_new_words
  unfold wTurn at h1
  simp only [bind_ok, map_ok, toS_ok, seq_nx, seq_rt, runS_nx, runS_rt, noX_ok, d_val, d_own, al_val, al_f, e_seq, e_next, e_ret, e_retN, e_ifS, e_set, e_drop, e_A, e_D, e_val, e_var0, e_varS, e_nil, e_cons, e_cmp, e_bin, e_blt, e_call, e_bl, blK_b, e_tru, trK_b, e_notT, e_andT, e_orT, e_and, andK_b, e_or, orK_b, e_not, notK_b, e_neg, negK_i, e_if, e_chain, chK_b, e_tup, e_lst, e_idx, e_attr, e_slice, e_noP, e_partE, ptK2_i, e_star, starK_lst, starK_tup, e_meth, ma_join, ma_split, ma_append, ma_pop, ma_index, meK_str, meK_lst, sl_tup, sl_lst, e_lc, e_for, e_iany, e_ienu, e_par, e_asg, e_sub, e_fld, stK_s, eq_int, ne_int, eq_str, ne_str, sOk_lit, sOk_numS, lt_int, le_int, gt_int, ge_int, in_sign, is_non, isNot_non, is_tup, isNot_tup, is_int, isNot_int, len_tup, len_ctup, len_lst, add_int, sub_int, int_int, abs_int, tuple_lst, tuple_tup, list_lst, list_tup, all_bls, o_lst, any_str, any_tup, any_lst, enu_tup, enu_lst, startE, List.map_cons, List.map_nil, List.length_cons, List.length_nil, List.replicate, List.nil_append, List.cons_append, List.set_cons_zero, List.set_cons_succ, Nat.reduceAdd, Nat.reduceSub, if_true, if_false, Bool.false_eq_true, ite_true, ite_false, sz0, sz1, sz2, sz3, sz4, sz5, sz6, sz7, sz8, sz9, ix_tup0, ix_tup1, ix_tup2, ix_tup3, ix_tup4, ix_tup5, ix_lst0, ix_lst1, ix_lst2, ix_lst3, ix_lst4, ix_lst5, ix_ctup0, ix_ctup1, ix_ctup2, ix_ctup3, ix_ctup4, ix_ctup5, al_t', as2, e_irng1, rng_1]
  simp only [ma_join, ma_append] at h1
  rw [h1]
  simp only [bind_ok, map_ok, toS_ok, seq_nx, seq_rt, runS_nx, runS_rt, noX_ok, d_val, d_own, al_val, al_f, e_seq, e_next, e_ret, e_retN, e_ifS, e_set, e_drop, e_A, e_D, e_val, e_var0, e_varS, e_nil, e_cons, e_cmp, e_bin, e_blt, e_call, e_bl, blK_b, e_tru, trK_b, e_notT, e_andT, e_orT, e_and, andK_b, e_or, orK_b, e_not, notK_b, e_neg, negK_i, e_if, e_chain, chK_b, e_tup, e_lst, e_idx, e_attr, e_slice, e_noP, e_partE, ptK2_i, e_star, starK_lst, starK_tup, e_meth, ma_join, ma_split, ma_append, ma_pop, ma_index, meK_str, meK_lst, sl_tup, sl_lst, e_lc, e_for, e_iany, e_ienu, e_par, e_asg, e_sub, e_fld, stK_s, eq_int, ne_int, eq_str, ne_str, sOk_lit, sOk_numS, lt_int, le_int, gt_int, ge_int, in_sign, is_non, isNot_non, is_tup, isNot_tup, is_int, isNot_int, len_tup, len_ctup, len_lst, add_int, sub_int, int_int, abs_int, tuple_lst, tuple_tup, list_lst, list_tup, all_bls, o_lst, any_str, any_tup, any_lst, enu_tup, enu_lst, startE, List.map_cons, List.map_nil, List.length_cons, List.length_nil, List.replicate, List.nil_append, List.cons_append, List.set_cons_zero, List.set_cons_succ, Nat.reduceAdd, Nat.reduceSub, if_true, if_false, Bool.false_eq_true, ite_true, ite_false, sz0, sz1, sz2, sz3, sz4, sz5, sz6, sz7, sz8, sz9, ix_tup0, ix_tup1, ix_tup2, ix_tup3, ix_tup4, ix_tup5, ix_lst0, ix_lst1, ix_lst2, ix_lst3, ix_lst4, ix_lst5, ix_ctup0, ix_ctup1, ix_ctup2, ix_ctup3, ix_ctup4, ix_ctup5]
  exact gc_ref (M := pen ns t' l' :: R) (o := .lst [.str w]) (Cl.pen hR) rfl
end
end Pc

set_option Elab.async false
set_option linter.all false
set_option maxRecDepth 100000
set_option maxHeartbeats 2000000
set_option autoImplicit false
/-! KpA: texts that repr gives -/
namespace Pc
open PySem PySem.Spec PyProof.Rows L2
theorem sOk_st (s : String) : sOk (Str.ofString s) := by
  unfold sOk PyData.strOk
  rw [← Array.all_toList, Str.ofString_eq_toList, List.toList_toArray, List.all_eq_true]
  intro c hc
  obtain ⟨x, _, rfl⟩ := List.mem_map.mp hc
  refine decide_eq_true ?_
  have v := x.valid
  show x.val.toNat < 0x110000
  rcases v with v | ⟨_, v⟩
  · have : x.val.toNat < 0xd800 := v
    omega
  · have : x.val.toNat < 0x110000 := v
    exact this
theorem sOk_app {a b : Str} (ha : sOk a) (hb : sOk b) : sOk (a ++ b) := by
  unfold sOk PyData.strOk at *
  rw [← Array.all_toList] at *
  have e : (a ++ b).cps.toList = a.cps.toList ++ b.cps.toList := by
    show (a.cps ++ b.cps).toList = _
    simp
  rw [e, List.all_append, ha, hb]
  rfl
theorem sOk_from : ∀ (ts : List Str) (k : Nat) (acc : Str), sOk acc → (∀ t ∈ ts, sOk t) → sOk (textFrom k acc ts)
  | [], _, _, ha, _ => ha
  | t :: ts, k, acc, ha, h => by
    refine sOk_from ts (k + 1) _ (sOk_app (sOk_app ha ?_) (h t List.mem_cons_self)) fun x hx => h x (List.mem_cons_of_mem _ hx)
    by_cases hk : k > 0
    · rw [if_pos hk]
      exact sOk_st _
    · rw [if_neg hk]
      exact sOk_st _
theorem sOk_list (ts : List Str) (h : ∀ t ∈ ts, sOk t) : sOk (listText ts) := sOk_app (sOk_from ts 0 "[" (sOk_st _) h) (sOk_st _)
theorem sOk_join (sep : Str) (hs : sOk sep) : ∀ ts : List Str, (∀ t ∈ ts, sOk t) → sOk (Str.join sep ts)
  | [], _ => sOk_st ""
  | [x], h => h x List.mem_cons_self
  | x :: y :: r, h => sOk_app (sOk_app (h x List.mem_cons_self) hs) (sOk_join sep hs (y :: r) fun z hz => h z (List.mem_cons_of_mem _ hz))
theorem sOk_tuple (ts : List Str) (h : ∀ t ∈ ts, sOk t) : sOk (tupleText ts) := by
  unfold tupleText
  refine sOk_app (sOk_app (sOk_st _) (sOk_join _ (sOk_st _) ts h)) ?_
  split <;> exact sOk_st _
end Pc

set_option Elab.async false
set_option linter.all false
set_option maxRecDepth 100000
set_option maxHeartbeats 2000000
set_option autoImplicit false
/-! KpB: repr of the fields -/
namespace Pc
open PySem PySem.Spec PyProof.Rows L2
def pI (n : Int) : PyData := .list [.int n, .int n, .int n, .int n, .int n, .int n, .int n]
theorem pI_len {n : Int} (h : n.natAbs.log2 < 300) : (pI n).shown.length ≤ sizeLine := by
  have e := int_text_length_le (k := 300) (by decide) h
  have e2 : (PyData.shown (.int n)).length ≤ 2000 := by
    show (Str.ofString (toString n)).length ≤ 2000
    rw [PySem.ofString_length]
    omega
  have z := PyData.shown_le 2000 (by decide) (pI n) (by
    simp only [pI, PyData.leavesShort, PyData.leavesShortAll, decide_eq_true e2, Bool.and_true])
  refine Nat.le_trans z ?_
  simp only [pI, PyData.weight, PyData.weightAll]
  rw [sizeLine_eq]
  have hb : (if (n == 0) = true then 0 else n.natAbs.log2 + 1) ≤ 301 := by split <;> omega
  generalize (if (n == 0) = true then 0 else n.natAbs.log2 + 1) = b at hb
  omega
theorem pI_ok (n : Int) : sOk (pI n).shown := by
  show sOk (listText [Str.ofString (toString n), Str.ofString (toString n), Str.ofString (toString n), Str.ofString (toString n), Str.ofString (toString n), Str.ofString (toString n), Str.ofString (toString n)])
  refine sOk_list _ fun t ht => ?_
  have : t = Str.ofString (toString n) := by simpa using ht
  rw [this]
  exact sOk_st _
theorem rep_ints {n : Int} {M : Mem} (h : n.natAbs.log2 < 300) : reprS [.lst [.int n, .int n, .int n, .int n, .int n, .int n, .int n]] M = .ok (.val (.str (pI n).shown)) M := by
  show (if (pI n).showable && !(pI n).hasDict && decide ((pI n).depth ≤ 50) && decide ((pI n).shown.length ≤ sizeLine) then R.ok (RV.val (D.str (pI n).shown)) M else .stuck) = _
  rw [if_pos]
  rw [decide_eq_true (pI_len h)]
  have h2 : n.natAbs.log2 < 1920 := by omega
  simp [pI, PyData.showable, PyData.showableAll, PyData.hasDict, PyData.hasDictAll, PyData.depth, PyData.depthAll, h2]
end Pc

set_option Elab.async false
set_option linter.all false
set_option maxRecDepth 100000
set_option maxHeartbeats 2000000
set_option autoImplicit false
/-! KpC: repr of texts and rows -/
namespace Pc
open PySem PySem.Spec PyProof.Rows L2
theorem rq_of (w : Str) : reprQuote w = 34 ∨ reprQuote w = 39 := by
  unfold reprQuote
  split
  · exact .inl rfl
  · exact .inr rfl
theorem rc_tab : ∀ c ∈ List.range' 97 26, PySem.Builtin.Str.reprChar 34 c = [c] ∧ PySem.Builtin.Str.reprChar 39 c = [c] := by decide +kernel
theorem rc_of {q c : Nat} (hq : q = 34 ∨ q = 39) (h : 97 ≤ c ∧ c < 123) : PySem.Builtin.Str.reprChar q c = [c] := by
  have z := rc_tab c (by rw [List.mem_range'_1]; omega)
  rcases hq with rfl | rfl
  · exact z.1
  · exact z.2
theorem fold_lts {q : Nat} (hq : q = 34 ∨ q = 39) : ∀ (l : List Nat) (acc : Array Nat), (∀ c ∈ l, 97 ≤ c ∧ c < 123) → l.foldl (fun out c => out ++ (PySem.Builtin.Str.reprChar q c).toArray) acc = acc ++ l.toArray
  | [], acc, _ => by simp
  | c :: l, acc, h => by
    rw [List.foldl_cons, fold_lts hq l _ fun x hx => h x (List.mem_cons_of_mem _ hx), rc_of hq (h c List.mem_cons_self)]
    simp
theorem reprText_lts {w : Str} (h : Lts w) : (reprText w).cps.toList = reprQuote w :: (w.cps.toList ++ [reprQuote w]) := by
  unfold reprText
  rw [← Array.foldl_toList, fold_lts (rq_of w) _ _ h]
  simp
theorem reprText_ok {w : Str} (h : Lts w) : sOk (reprText w) := by
  unfold sOk PyData.strOk
  rw [← Array.all_toList, reprText_lts h, List.all_eq_true]
  intro c hc
  refine decide_eq_true ?_
  have hq := rq_of w
  simp only [List.mem_cons, List.mem_append, List.not_mem_nil, or_false] at hc
  rcases hc with rfl | hc | rfl
  · omega
  · have := h c hc
    omega
  · omega
end Pc

set_option Elab.async false
set_option linter.all false
set_option maxRecDepth 100000
set_option maxHeartbeats 2000000
set_option autoImplicit false
/-! KpD: repr of the told fields -/
namespace Pc
open PySem PySem.Spec PyProof.Rows L2
def pT (t : Str) (fs : List Int) : PyData := .list [.str t, .str t, .str t, .tuple (fs.map .int), .tuple (fs.map .int)]
/-- a row of one to three places -/
def Row (fs : List Int) : Prop := (1 ≤ fs.length ∧ fs.length ≤ 3) ∧ ∀ f ∈ fs, f.natAbs.log2 < 300
theorem shownAll_map (fs : List Int) : PyData.shownAll (fs.map PyData.int) = fs.map fun f => Str.ofString (toString f) := by
  induction fs with
  | nil => rfl
  | cons f fs ih => rw [List.map_cons, PyData.shownAll, ih]; rfl
theorem pT_ok {t : Str} {fs : List Int} (h : Lts t) : sOk (pT t fs).shown := by
  have ht : sOk (tupleText (PyData.shownAll (fs.map PyData.int))) := by
    rw [shownAll_map]
    refine sOk_tuple _ fun x hx => ?_
    obtain ⟨f, _, rfl⟩ := List.mem_map.mp hx
    exact sOk_st _
  show sOk (listText [reprText t, reprText t, reprText t, tupleText (PyData.shownAll (fs.map PyData.int)), tupleText (PyData.shownAll (fs.map PyData.int))])
  refine sOk_list _ fun x hx => ?_
  simp only [List.mem_cons, List.not_mem_nil, or_false] at hx
  rcases hx with rfl | rfl | rfl | rfl | rfl
  · exact reprText_ok h
  · exact reprText_ok h
  · exact reprText_ok h
  · exact ht
  · exact ht
theorem row_cases {fs : List Int} (h : Row fs) : (∃ a, fs = [a] ∧ a.natAbs.log2 < 300) ∨ (∃ a b, fs = [a, b] ∧ a.natAbs.log2 < 300 ∧ b.natAbs.log2 < 300) ∨ ∃ a b c, fs = [a, b, c] ∧ a.natAbs.log2 < 300 ∧ b.natAbs.log2 < 300 ∧ c.natAbs.log2 < 300 := by
  obtain ⟨⟨h1, h2⟩, h3⟩ := h
  match fs, h1, h2, h3 with
  | [a], _, _, h3 => exact .inl ⟨a, rfl, h3 a (by simp)⟩
  | [a, b], _, _, h3 => exact .inr (.inl ⟨a, b, rfl, h3 a (by simp), h3 b (by simp)⟩)
  | [a, b, c], _, _, h3 => exact .inr (.inr ⟨a, b, c, rfl, h3 a (by simp), h3 b (by simp), h3 c (by simp)⟩)
theorem int_short {n : Int} (h : n.natAbs.log2 < 300) : (PyData.shown (.int n)).length ≤ 2000 := by
  have e := int_text_length_le (k := 300) (by decide) h
  show (Str.ofString (toString n)).length ≤ 2000
  rw [PySem.ofString_length]
  omega
theorem str_short {t : Str} (h : Lts t) : (t.cps.toList.all fun c => decide (c < 16 ^ 8)) = true := by
  rw [List.all_eq_true]
  intro c hc
  have := h c hc
  exact decide_eq_true (by omega)
theorem w_int {n : Int} (h : n.natAbs.log2 < 300) : (if (n == 0) = true then 0 else n.natAbs.log2 + 1) ≤ 301 := by split <;> omega
theorem pT_len {t : Str} {fs : List Int} (h : Lts t) (ht : t.length ≤ 13) (hr : Row fs) : (pT t fs).shown.length ≤ sizeLine := by
  have hsz : t.cps.size ≤ 13 := ht
  have key : (pT t fs).leavesShort 2000 = true ∧ (pT t fs).weight ≤ 8000 := by
    rcases row_cases hr with ⟨a, rfl, ha⟩ | ⟨a, b, rfl, ha, hb⟩ | ⟨a, b, c, rfl, ha, hb, hc⟩
    · have := w_int ha
      simp only [pT, List.map_cons, List.map_nil, PyData.leavesShort, PyData.leavesShortAll, decide_eq_true (int_short ha), str_short h, Bool.and_true, PyData.weight, PyData.weightAll, true_and]
      omega
    · have := w_int ha
      have := w_int hb
      simp only [pT, List.map_cons, List.map_nil, PyData.leavesShort, PyData.leavesShortAll, decide_eq_true (int_short ha), decide_eq_true (int_short hb), str_short h, Bool.and_true, PyData.weight, PyData.weightAll, true_and]
      omega
    · have := w_int ha
      have := w_int hb
      have := w_int hc
      simp only [pT, List.map_cons, List.map_nil, PyData.leavesShort, PyData.leavesShortAll, decide_eq_true (int_short ha), decide_eq_true (int_short hb), decide_eq_true (int_short hc), str_short h, Bool.and_true, PyData.weight, PyData.weightAll, true_and]
      omega
  refine Nat.le_trans (PyData.shown_le 2000 (by decide) (pT t fs) key.1) ?_
  rw [sizeLine_eq]
  have := key.2
  omega
theorem rep_told {t : Str} {fs : List Int} {M : Mem} (h : Lts t) (ht : t.length ≤ 13) (hr : Row fs) : reprS [.lst [.str t, .str t, .str t, .tup (fs.map D.int), .tup (fs.map D.int)]] M = .ok (.val (.str (pT t fs).shown)) M := by
  have hl := pT_len h ht hr
  have hp : (D.lst [.str t, .str t, .str t, .tup (fs.map D.int), .tup (fs.map D.int)]).py M = some (pT t fs) := by
    have e : (D.tup (fs.map D.int)).py0 = some (.tuple (fs.map .int)) := by rw [D.py0, pyL_ints]
    show (D.lst [.str t, .str t, .str t, .tup (fs.map D.int), .tup (fs.map D.int)]).py0 = _
    simp only [D.py0, pyL, pyL_ints]
    rfl
  show (match (D.lst [.str t, .str t, .str t, .tup (fs.map D.int), .tup (fs.map D.int)]).py M with
    | some p => if p.showable && !p.hasDict && decide (p.depth ≤ 50) && decide (p.shown.length ≤ sizeLine) then R.ok (RV.val (D.str p.shown)) M else .stuck
    | none => .stuck) = _
  rw [hp]
  dsimp only
  rw [if_pos]
  rw [decide_eq_true hl]
  rcases row_cases hr with ⟨a, rfl, ha⟩ | ⟨a, b, rfl, ha, hb⟩ | ⟨a, b, c, rfl, ha, hb, hc⟩
  · have h1 : a.natAbs.log2 < 1920 := by omega
    simp [pT, PyData.showable, PyData.showableAll, PyData.hasDict, PyData.hasDictAll, PyData.depth, PyData.depthAll, h1]
  · have h1 : a.natAbs.log2 < 1920 := by omega
    have h2 : b.natAbs.log2 < 1920 := by omega
    simp [pT, PyData.showable, PyData.showableAll, PyData.hasDict, PyData.hasDictAll, PyData.depth, PyData.depthAll, h1, h2]
  · have h1 : a.natAbs.log2 < 1920 := by omega
    have h2 : b.natAbs.log2 < 1920 := by omega
    have h3 : c.natAbs.log2 < 1920 := by omega
    simp [pT, PyData.showable, PyData.showableAll, PyData.hasDict, PyData.hasDictAll, PyData.depth, PyData.depthAll, h1, h2, h3]
end Pc

set_option Elab.async false
set_option linter.all false
set_option maxRecDepth 100000
set_option maxHeartbeats 4000000
set_option autoImplicit false
/-! KpE: the law's turn -/
namespace Pc
open PySem PySem.Spec PyProof.Rows L2
theorem cut63 {ns : List Int} (h : ns.length ≤ 63) : cutL ns none (some 63) = ns := by
  unfold cutL
  have e1 : HT.sIx ns.length 0 none = 0 := rfl
  have e2 : HT.sIx ns.length ns.length (some 63) = ns.length := by
    unfold HT.sIx
    simp
    omega
  rw [e1, e2]
  simp
theorem sp_begun (k : Nat) {ns : List Int} (h : ns.length ≤ 63) : (mkDy G T (k + 1)).call "_law_begun_pen" [.scr ns] [] = .ok (.own (pen ns 0 0)) [] := by
  rw [c__law_begun_pen]
  have e : runS (m__law_begun_pen (mkDy G T k) (startE ["script"] [.scr ns]) []) = .ok (.own (pen (cutL ns none (some 63)) 0 0)) [] := by kernel_rfl
  rw [e, cut63 h]
  exact gc_own' _ _
section
variable {R M : Mem} {ns : List Int} {t l : Int}
def pBody : MS := mSeq (mDrop (mMeth (methAlts "append") (ownG (mkDy G T 11) "append") "append" (mVar 5) (mConsA false (mCall 1 ((mkDy G T 11).call "_law_far_number") (mConsA false (mVar 1) mNil)) mNil))) mNext
theorem w_places (hl : ns.length ≤ 63) {t0 : Int} (h0 : 0 ≤ t0) (h1 : t0 < 2 ^ 30) {l0 : Int} {x0 x2 x3 x4 x6 x7 x8 x9 x10 x11 x12 x13 : Option D} (n : Nat) (hn : n ≤ 3) :
    ∃ (fs : List Int) (t l : Int) (x : Option D), forL (gRng 0 n) (gN 6) pBody n 0 [x0, some (.ref 0), x2, x3, x4, some (.ref (R.length + 1)), x6, x7, x8, x9, x10, x11, x12, x13] (pen ns t0 l0 :: (R ++ [.lst []])) =
      .nx [x0, some (.ref 0), x2, x3, x4, some (.ref (R.length + 1)), x, x7, x8, x9, x10, x11, x12, x13] (pen ns t l :: (R ++ [.lst (fs.map D.int)])) ∧ fs.length = n ∧ (∀ f ∈ fs, -(10 ^ 42) < f ∧ f < 10 ^ 42) ∧ 0 ≤ t ∧ t ≤ t0 + 8 * n := by
  have L := for_rng (i := 6) (n := n) (a := pBody) (P := fun j env M => ∃ (fs : List Int) (t l : Int) (x : Option D), env = [x0, some (.ref 0), x2, x3, x4, some (.ref (R.length + 1)), x, x7, x8, x9, x10, x11, x12, x13] ∧ M = pen ns t l :: (R ++ [.lst (fs.map D.int)]) ∧ fs.length = j ∧ (∀ f ∈ fs, -(10 ^ 42) < f ∧ f < 10 ^ 42) ∧ 0 ≤ t ∧ t ≤ t0 + 8 * j)
    (fun j env M hj ⟨fs, t, l, x, he, hM, h3, h4, h5, h6⟩ => by
      subst he hM
      obtain ⟨f, t2, l2, e, f0, f1, s0, s1⟩ := sp_far_number (R := R ++ [.lst (fs.map D.int)]) (l := l) (ns := ns) (t := t) 9 h5 (by omega) hl
      have e : (mkDy G T 11).call "_law_far_number" [.ref 0] (pen ns t l :: (R ++ [.lst (fs.map D.int)])) = .ok (.val (.int f)) (pen ns t2 l2 :: (R ++ [.lst (fs.map D.int)])) := e
      have sz : (fs.map D.int).length < sizeLine := by rw [List.length_map, sizeLine_eq]; omega
      refine ⟨[x0, some (.ref 0), x2, x3, x4, some (.ref (R.length + 1)), some (.int (j : Nat)), x7, x8, x9, x10, x11, x12, x13], pen ns t2 l2 :: (R ++ [.lst ((fs ++ [f]).map D.int)]), ?_, fs ++ [f], t2, l2, _, rfl, rfl, by simp [h3], fun y hy => (List.mem_append.mp hy).elim (h4 y) fun z => by rw [List.mem_singleton.mp z]; exact ⟨f0, f1⟩, s0, by omega⟩
      unfold pBody
      simp only [bind_ok, map_ok, toS_ok, seq_nx, seq_rt, runS_nx, runS_rt, noX_ok, d_val, d_own, al_val, al_f, e_seq, e_next, e_ret, e_retN, e_ifS, e_set, e_drop, e_A, e_D, e_val, e_var0, e_varS, e_nil, e_cons, e_cmp, e_bin, e_blt, e_call, e_bl, blK_b, e_tru, trK_b, e_notT, e_andT, e_orT, e_and, andK_b, e_or, orK_b, e_not, notK_b, e_neg, negK_i, e_if, e_chain, chK_b, e_tup, e_lst, e_idx, e_attr, e_slice, e_noP, e_partE, ptK2_i, e_star, starK_lst, starK_tup, e_meth, ma_join, ma_split, ma_append, ma_pop, ma_index, meK_str, meK_lst, sl_tup, sl_lst, e_lc, e_for, e_iany, e_ienu, e_par, e_asg, e_sub, e_fld, stK_s, eq_int, ne_int, eq_str, ne_str, sOk_lit, sOk_numS, lt_int, le_int, gt_int, ge_int, in_sign, is_non, isNot_non, is_tup, isNot_tup, is_int, isNot_int, len_tup, len_ctup, len_lst, add_int, sub_int, int_int, abs_int, tuple_lst, tuple_tup, list_lst, list_tup, all_bls, o_lst, any_str, any_tup, any_lst, enu_tup, enu_lst, startE, List.map_cons, List.map_nil, List.length_cons, List.length_nil, List.replicate, List.nil_append, List.cons_append, List.set_cons_zero, List.set_cons_succ, Nat.reduceAdd, Nat.reduceSub, if_true, if_false, Bool.false_eq_true, ite_true, ite_false, sz0, sz1, sz2, sz3, sz4, sz5, sz6, sz7, sz8, sz9, ix_tup0, ix_tup1, ix_tup2, ix_tup3, ix_tup4, ix_tup5, ix_lst0, ix_lst1, ix_lst2, ix_lst3, ix_lst4, ix_lst5, ix_ctup0, ix_ctup1, ix_ctup2, ix_ctup3, ix_ctup4, ix_ctup5, meK_pen, e, app_pen sz, List.map_append]) n 0 [x0, some (.ref 0), x2, x3, x4, some (.ref (R.length + 1)), x6, x7, x8, x9, x10, x11, x12, x13] (pen ns t0 l0 :: (R ++ [.lst []])) rfl ⟨[], t0, l0, x6, rfl, rfl, rfl, ⟨fun f hf => (List.not_mem_nil hf).elim, h0, by omega⟩⟩
  obtain ⟨env', M', h2, fs, t, l, x, rfl, rfl, h3, h4, h5, h6⟩ := L
  exact ⟨fs, t, l, x, h2, h3, h4, h5, h6⟩
end
end Pc

set_option Elab.async false
set_option linter.all false
set_option maxRecDepth 100000
set_option maxHeartbeats 8000000
set_option autoImplicit false
/-! KpF: the law -/
namespace Pc
open PySem PySem.Spec PyProof.Rows L2
section
variable {R M : Mem} {ns : List Int} {t l : Int} {n : Int} {w : Str}
theorem tuple_pen {xs : List D} : tupleS [.ref (R.length + 1)] (pen ns t l :: (R ++ [.lst xs])) = .ok (.val (.tup xs)) (pen ns t l :: (R ++ [.lst xs])) := by
  unfold tupleS
  simp only [seqA, seqL, at_new]
theorem any_pen {xs : List D} : anyI (.ref (R.length + 1)) (pen ns t l :: (R ++ [.lst xs])) = .ok (xs.length, gSeq (.ref (R.length + 1))) (pen ns t l :: (R ++ [.lst xs])) := any_cat (M := pen ns t l :: R)
theorem g_pen {xs : List D} (k : Nat) : gSeq (.ref (R.length + 1)) (pen ns t l :: (R ++ [.lst xs])) k = some xs[k]? := g_cat (M := pen ns t l :: R) k
def incD : D → D
  | .int i => .int (i + 1)
  | d => d
theorem lc_inc (fs : List Int) (hf : fs.length ≤ 100) {x0 x1 x2 x3 x4 x5 x6 x7 x8 x9 x10 x11 x12 x13 : Option D} : lcL (gSeq (.ref (R.length + 1))) (gN 9) mYes (mA false (mBin .Add (mVar 9) (mVal (.int (1))))) [9] [x0, x1, x2, x3, x4, x5, x6, x7, x8, x9, x10, x11, x12, x13] (fs.map D.int).length 0 (pen ns t l :: (R ++ [.lst (fs.map D.int)])) [] = .ok ((fs.map (· + 1)).map D.int) (pen ns t l :: (R ++ [.lst (fs.map D.int)])) := by
  rw [lc_pure (fs.map D.int) (fun _ => true) incD g_pen (by rw [List.length_map, sizeLine_eq]; omega)]
  · congr 1
    rw [List.filter_eq_self.mpr (fun _ _ => rfl), List.map_map, List.map_map]
    rfl
  · intro d hd
    obtain ⟨f, _, rfl⟩ := List.mem_map.mp hd
    exact ⟨[(9, _)], rfl, rfl, rfl, fun _ => rfl⟩
theorem mul7 {d : D} : binS .Mult (.lst [d]) (.int 7) M = .ok (.own (.lst [d, d, d, d, d, d, d])) M := by kernel_rfl
theorem mul3 {d : D} : binS .Mult (.lst [d]) (.int 3) M = .ok (.own (.lst [d, d, d])) M := by kernel_rfl
theorem mul2 {d : D} : binS .Mult (.lst [d]) (.int 2) M = .ok (.own (.lst [d, d])) M := by kernel_rfl
theorem p60 : binS .Pow (.int 10) (.int 60) M = .ok (.val (.int (10 ^ 60))) M := by kernel_rfl
theorem p59 : binS .Pow (.int 10) (.int 59) M = .ok (.val (.int (10 ^ 59))) M := by kernel_rfl
theorem sp_numbered' (k : Nat) (h : n.natAbs.log2 < 1920) : (mkDy G T (k + 1)).call "_law_numbered" [.int n] M = .ok (.own (.lst [.exo "BadPointers" ["index"] [.int n], .exo "BadContract" ["line"] [.int n], .exo "BadProgram" ["line"] [.int n], .exo "BadCount" ["count"] [.int n], .exo "NoLine" ["line"] [.int n], .exo "TooMany" ["limit"] [.int n], .exo "NoFact" ["index"] [.int n]])) M := by
  rw [sp_numbered k h, gc_own']
theorem sp_told' (k : Nat) (r : D) (h : w.length ≤ 1900) : (mkDy G T (k + 1)).call "_law_told" [.str w, r] M = .ok (.own (.lst [.exo "BadName" ["name"] [.str w], .exo "Taken" ["name"] [.str w], .exo "NoFunction" ["name"] [.str w], .exo "Stuck" ["places"] [r], .exo "Parted" ["places"] [r]])) M := by
  rw [sp_told k r h, gc_own']
theorem sp_numbers' (k : Nat) : (mkDy G T (k + 1)).call "_law_numbers" [madeN n] M = .ok (.own (.lst [.int n, .int n, .int n, .int n, .int n, .int n, .int n])) M := by
  rw [sp_numbers k, gc_own']
theorem sp_told_fields' (k : Nat) (r : D) : (mkDy G T (k + 1)).call "_law_told_fields" [madeT w r] M = .ok (.own (.lst [.str w, .str w, .str w, r, r])) M := by
  rw [sp_told_fields k r, gc_own']
theorem lts_x (h : Lts w) : Lts ("x" ++ w) := by
  intro c hc
  have e : (Str.ofString "x" ++ w).cps.toList = 120 :: w.cps.toList := by
    show (_ ++ w.cps).toList = _
    rw [Array.toList_append]
    rfl
  have hc : c ∈ (Str.ofString "x" ++ w).cps.toList := hc
  rw [e] at hc
  rcases List.mem_cons.mp hc with rfl | z
  · omega
  · exact h c z
theorem len_x : (Str.ofString "x" ++ w).length = 1 + w.length := PySem.Str.length_append _ _
end
end Pc

set_option Elab.async false
set_option linter.all false
set_option maxRecDepth 100000
set_option maxHeartbeats 8000000
set_option autoImplicit false
/-! KpG: the law's turn, the law -/
namespace Pc
open PySem PySem.Spec PyProof.Rows L2
def lTurn : MS := (mSeq (mSet false 3 (mBin .Sub (mCall 2 ((mkDy G T 11).call "_law_draw") (mConsA false (mVar 1) (mConsA false (mBin .Pow (mVal (.int (10))) (mVal (.int (60)))) mNil))) (mCall 2 ((mkDy G T 11).call "_law_pick") (mConsA false (mVar 1) (mConsA false (mLst (mConsA false (mVal (.int (0))) (mConsA false (mVal (.int (0))) (mConsA false (mBin .Pow (mVal (.int (10))) (mVal (.int (59)))) mNil)))) mNil))))) (mSeq (mPar [4, 5] (mConsA false (mIdx (mCall 2 ((mkDy G T 11).call "_law_new_words") (mConsA false (mVar 1) (mConsA false (mVal (.int (1))) mNil))) (mVal (.int (0)))) (mConsA true (mLst mNil) mNil))) (mSeq (mFor (mIRng1 (mConsA false (mBin .Add (mVal (.int (1))) (mCall 2 ((mkDy G T 11).call "_law_draw") (mConsA false (mVar 1) (mConsA false (mVal (.int (3))) mNil)))) mNil)) (gN 6) (mSeq (mDrop (mMeth (methAlts "append") (ownG (mkDy G T 11) "append") "append" (mVar 5) (mConsA false (mCall 1 ((mkDy G T 11).call "_law_far_number") (mConsA false (mVar 1) mNil)) mNil))) mNext)) (mSeq (mPar [7, 8] (mConsA false (mBlt tupleS (mConsA false (mVar 5) mNil)) (mConsA false (mBlt tupleS (mConsA false (mLc (mIAny (mVar 5)) (gN 9) mYes (mA false (mBin .Add (mVar 9) (mVal (.int (1))))) [9]) mNil)) mNil))) (mSeq (mPar [10, 11] (mConsA false (mCall 1 ((mkDy G T 11).call "_law_numbered") (mConsA false (mVar 3) mNil)) (mConsA false (mCall 1 ((mkDy G T 11).call "_law_numbered") (mConsA false (mBin .Add (mVar 3) (mVal (.int (1)))) mNil)) mNil))) (mSeq (mPar [12, 13] (mConsA false (mCall 2 ((mkDy G T 11).call "_law_told") (mConsA false (mVar 4) (mConsA false (mVar 7) mNil))) (mConsA false (mCall 2 ((mkDy G T 11).call "_law_told") (mConsA false (mBin .Add (mVal (.str "x")) (mVar 4)) (mConsA false (mVar 8) mNil))) mNil))) (mSeq (mIfS (mBl (mCmp .NotEq (mBlt reprS (mConsA false (mCall 1 ((mkDy G T 11).call "_law_numbers") (mConsA false (mVar 10) mNil)) mNil)) (mBlt reprS (mConsA false (mBin .Mult (mLst (mConsA false (mVar 3) mNil)) (mVal (.int (7)))) mNil)))) (mSeq (mRet (mVal (.bl false))) mNext) mNext) (mSeq (mIfS (mBl (mCmp .NotEq (mBlt reprS (mConsA false (mCall 1 ((mkDy G T 11).call "_law_numbers") (mConsA false (mVar 11) mNil)) mNil)) (mBlt reprS (mConsA false (mBin .Mult (mLst (mConsA false (mBin .Add (mVar 3) (mVal (.int (1)))) mNil)) (mVal (.int (7)))) mNil)))) (mSeq (mRet (mVal (.bl false))) mNext) mNext) (mSeq (mIfS (mBl (mCmp .NotEq (mBlt reprS (mConsA false (mCall 1 ((mkDy G T 11).call "_law_told_fields") (mConsA false (mVar 12) mNil)) mNil)) (mBlt reprS (mConsA false (mBin .Add (mBin .Mult (mLst (mConsA false (mVar 4) mNil)) (mVal (.int (3)))) (mBin .Mult (mLst (mConsA false (mVar 7) mNil)) (mVal (.int (2))))) mNil)))) (mSeq (mRet (mVal (.bl false))) mNext) mNext) (mSeq (mIfS (mBl (mCmp .NotEq (mBlt reprS (mConsA false (mCall 1 ((mkDy G T 11).call "_law_told_fields") (mConsA false (mVar 13) mNil)) mNil)) (mBlt reprS (mConsA false (mBin .Add (mBin .Mult (mLst (mConsA false (mBin .Add (mVal (.str "x")) (mVar 4)) mNil)) (mVal (.int (3)))) (mBin .Mult (mLst (mConsA false (mVar 8) mNil)) (mVal (.int (2))))) mNil)))) (mSeq (mRet (mVal (.bl false))) mNext) mNext) (mSeq (mIfS (mOrT (mNotT (mTru (mCall 1 ((mkDy G T 11).call "_law_numbered_right") (mConsA false (mVar 10) mNil)))) (mOrT (mNotT (mTru (mCall 1 ((mkDy G T 11).call "_law_told_right") (mConsA false (mVar 12) mNil)))) (mNotT (mTru (mCall 0 ((mkDy G T 11).call "_law_plain_right") mNil))))) (mSeq (mRet (mVal (.bl false))) mNext) mNext) mNext)))))))))))
section
variable {R M : Mem} {ns : List Int} {t l : Int}
theorem lg2 {n : Int} (h1 : -(10 ^ 61) < n) (h2 : n < 10 ^ 61) : n.natAbs.log2 < 299 := by
  have h : n.natAbs < 2 ^ 299 := by
    have : (10 : Nat) ^ 61 < 2 ^ 299 := by decide +kernel
    have : n.natAbs < 10 ^ 61 := by omega
    omega
  exact lg h (by decide)
theorem cl_lst_ints (fs : List Int) (n : Nat) : clO n (.lst (fs.map D.int)) = true := cl_ints fs n
theorem nb {b : Str} : (!(b == b)) = false := by simp
theorem l_turn (hl : ns.length ≤ 63) (hR : Cl R) (ht : 0 ≤ t) (ht2 : t < 2 ^ 20) {x2 x3 x4 x5 x6 x7 x8 x9 x10 x11 x12 x13 : Option D} : ∃ (y3 y4 y5 y6 y7 y8 y9 y10 y11 y12 y13 : Option D) (R' : Mem) (t' l' : Int),
    lTurn [some (.scr ns), some (.ref 0), x2, x3, x4, x5, x6, x7, x8, x9, x10, x11, x12, x13] (pen ns t l :: R) = .nx [some (.scr ns), some (.ref 0), x2, y3, y4, y5, y6, y7, y8, y9, y10, y11, y12, y13] (pen ns t' l' :: R') ∧ Cl R' ∧ 0 ≤ t' ∧ t' ≤ t + 100 := by
  obtain ⟨r1, t1, l1, e1, a1, b1, c1, d1⟩ := sp_draw (R := R) (l := l) 10 (s := 10 ^ 60) (by decide) (by decide +kernel) ht (by omega) hl
  have e1 : (mkDy G T 11).call "_law_draw" [.ref 0, .int (10 ^ 60)] (pen ns t l :: R) = .ok (.val (.int r1)) (pen ns t1 l1 :: R) := e1
  obtain ⟨x, t2, l2, hx, e2, c2, d2⟩ := sp_pick (R := R) (l := l1) (ns := ns) (t := t1) 9 (xs := [.int 0, .int 0, .int (10 ^ 59)]) (by show 0 < 3; decide) (by show 3 ≤ 100; decide) c1 (by omega) hl
  have e2 : (mkDy G T 11).call "_law_pick" [.ref 0, .lst [.int 0, .int 0, .int (10 ^ 59)]] (pen ns t1 l1 :: R) = .ok (.val x) (pen ns t2 l2 :: R) := e2
  obtain ⟨v, rfl, v0, v1⟩ : ∃ v : Int, x = .int v ∧ 0 ≤ v ∧ v ≤ 10 ^ 59 := by
    simp only [List.mem_cons, List.not_mem_nil, or_false] at hx
    rcases hx with rfl | rfl | rfl
    · exact ⟨0, rfl, by omega, by omega⟩
    · exact ⟨0, rfl, by omega, by omega⟩
    · exact ⟨10 ^ 59, rfl, by omega, by omega⟩
  obtain ⟨w, t3, l3, e3, w1, w2, w3, c3, d3⟩ := sp_new_words (R := R) (l := l2) (ns := ns) (t := t2) 8 hR c2 (by omega) hl
  have e3 : (mkDy G T 11).call "_law_new_words" [.ref 0, .int 1] (pen ns t2 l2 :: R) = .ok (.own (.lst [.str w])) (pen ns t3 l3 :: R) := e3
  obtain ⟨r4, t4, l4, e4, a4, b4, c4, d4⟩ := sp_draw (R := R ++ [.lst []]) (l := l3) (ns := ns) (t := t3) 10 (s := 3) (by decide) (by decide +kernel) c3 (by omega) hl
  have e4 : (mkDy G T 11).call "_law_draw" [.ref 0, .int 3] (pen ns t3 l3 :: (R ++ [.lst []])) = .ok (.val (.int r4)) (pen ns t4 l4 :: (R ++ [.lst []])) := e4
  have hok : okI (1 + r4) = true := by
    unfold okI
    rw [Bool.and_eq_true]
    exact ⟨decide_eq_true (by omega), decide_eq_true (by omega)⟩
  obtain ⟨fs, t5, l5, y6, e5, f1, f2, c5, d5⟩ := w_places (R := R) (ns := ns) hl (t0 := t4) c4 (by omega) (l0 := l4) (x0 := some (.scr ns)) (x2 := x2) (x3 := some (.int (r1 - v))) (x4 := some (.str w)) (x6 := x6) (x7 := x7) (x8 := x8) (x9 := x9) (x10 := x10) (x11 := x11) (x12 := x12) (x13 := x13) (1 + r4).toNat (by omega)
  have k1 : (r1 - v).natAbs.log2 < 299 := lg2 (by omega) (by omega)
  have k2 : (r1 - v + 1).natAbs.log2 < 299 := lg2 (by omega) (by omega)
  have q1 : Row fs := ⟨by omega, fun f hf => Nat.lt_of_lt_of_le (lg2 (by have := f2 f hf; omega) (by have := f2 f hf; omega)) (by decide)⟩
  have q2 : Row (fs.map (· + 1)) := ⟨by rw [List.length_map]; omega, fun f hf => by
    obtain ⟨g, hg, rfl⟩ := List.mem_map.mp hf
    exact Nat.lt_of_lt_of_le (lg2 (by have := f2 g hg; omega) (by have := f2 g hg; omega)) (by decide)⟩
  have hX : Lts ("x" ++ w) := lts_x w1
  have lX : (("x" : Str) ++ w).length = 1 + w.length := len_x
  have z1 : (Str.ofString "x").length + w.length ≤ sizeLine := by
    have : (Str.ofString "x").length = 1 := by decide
    rw [sizeLine_eq]; omega
  have hM : Cl (pen ns t5 l5 :: (R ++ [.lst (fs.map D.int)])) := Cl.pen (hR.add (cl_lst_ints fs))
  have n1 : ∀ M, (mkDy G T 11).call "_law_numbered" [.int (r1 - v)] M = _ := fun M => sp_numbered' 10 (n := r1 - v) (by omega)
  have n2 : ∀ M, (mkDy G T 11).call "_law_numbered" [.int (r1 - v + 1)] M = _ := fun M => sp_numbered' 10 (n := r1 - v + 1) (by omega)
  have m1 : ∀ M, (mkDy G T 11).call "_law_told" [.str w, .tup (fs.map D.int)] M = _ := fun M => sp_told' 10 (.tup (fs.map D.int)) (w := w) (by omega)
  have m2 : ∀ M, (mkDy G T 11).call "_law_told" [.str ("x" ++ w), .tup ((fs.map (· + 1)).map D.int)] M = _ := fun M => sp_told' 10 (.tup ((fs.map (· + 1)).map D.int)) (w := "x" ++ w) (by omega)
  have o1 : ∀ M, (mkDy G T 11).call "_law_numbers" [madeN (r1 - v)] M = _ := fun M => sp_numbers' 10
  have o2 : ∀ M, (mkDy G T 11).call "_law_numbers" [madeN (r1 - v + 1)] M = _ := fun M => sp_numbers' 10
  have o3 : ∀ M, (mkDy G T 11).call "_law_told_fields" [madeT w (.tup (fs.map D.int))] M = _ := fun M => sp_told_fields' 10 _
  have o4 : ∀ M, (mkDy G T 11).call "_law_told_fields" [madeT ("x" ++ w) (.tup ((fs.map (· + 1)).map D.int))] M = _ := fun M => sp_told_fields' 10 _
  have g1 : (mkDy G T 11).call "_law_numbered_right" [madeN (r1 - v)] _ = _ := sp_numbered_right 8 hM
  have g2 : (mkDy G T 11).call "_law_told_right" [madeT w (.tup (fs.map D.int))] _ = _ := sp_told_right 8 _ hM
  have g3 : (mkDy G T 11).call "_law_plain_right" [] _ = _ := sp_plain_right 8 hM
  unfold madeN at o1 o2 g1
  unfold madeT at o3 o4 g2
  have s1 : sOk (pI (r1 - v)).shown := pI_ok _
  have s2 : sOk (pI (r1 - v + 1)).shown := pI_ok _
  have s3 : sOk (pT w fs).shown := pT_ok w1
  have s4 : sOk (pT ("x" ++ w) (fs.map (· + 1))).shown := pT_ok hX
  have r1' : ∀ M, reprS [.lst [.int (r1 - v), .int (r1 - v), .int (r1 - v), .int (r1 - v), .int (r1 - v), .int (r1 - v), .int (r1 - v)]] M = _ := fun M => rep_ints (n := r1 - v) (by omega)
  have r2' : ∀ M, reprS [.lst [.int (r1 - v + 1), .int (r1 - v + 1), .int (r1 - v + 1), .int (r1 - v + 1), .int (r1 - v + 1), .int (r1 - v + 1), .int (r1 - v + 1)]] M = _ := fun M => rep_ints (n := r1 - v + 1) (by omega)
  have r3' : ∀ M, reprS [.lst [.str w, .str w, .str w, .tup (fs.map D.int), .tup (fs.map D.int)]] M = _ := fun M => rep_told (t := w) (fs := fs) w1 (by omega) q1
  have r4' : ∀ M, reprS [.lst [.str ("x" ++ w), .str ("x" ++ w), .str ("x" ++ w), .tup ((fs.map (· + 1)).map D.int), .tup ((fs.map (· + 1)).map D.int)]] M = _ := fun M => rep_told (t := "x" ++ w) (fs := fs.map (· + 1)) hX (by omega) q2
  have inc := fun x0 x1 x2 x3 x4 x5 x6 x7 x8 x9 x10 x11 x12 x13 => lc_inc (R := R) (ns := ns) (t := t5) (l := l5) fs (by omega) (x0 := x0) (x1 := x1) (x2 := x2) (x3 := x3) (x4 := x4) (x5 := x5) (x6 := x6) (x7 := x7) (x8 := x8) (x9 := x9) (x10 := x10) (x11 := x11) (x12 := x12) (x13 := x13)
  refine ⟨some (.int (r1 - v)), some (.str w), some (.ref (R.length + 1)), y6, some (.tup (fs.map D.int)), some (.tup ((fs.map (· + 1)).map D.int)), x9, some (madeN (r1 - v)), some (madeN (r1 - v + 1)), some (madeT w (.tup (fs.map D.int))), some (madeT ("x" ++ w) (.tup ((fs.map (· + 1)).map D.int))), R ++ [.lst (fs.map D.int)], t5, l5, ?_, hR.add (cl_lst_ints fs), c5, by omega⟩
  unfold lTurn
  unfold pBody at e5
  simp only [ma_append] at e5
  simp only [bind_ok, map_ok, toS_ok, seq_nx, seq_rt, runS_nx, runS_rt, noX_ok, d_val, d_own, al_val, al_f, e_seq, e_next, e_ret, e_retN, e_ifS, e_set, e_drop, e_A, e_D, e_val, e_var0, e_varS, e_nil, e_cons, e_cmp, e_bin, e_blt, e_call, e_bl, blK_b, e_tru, trK_b, e_notT, e_andT, e_orT, e_and, andK_b, e_or, orK_b, e_not, notK_b, e_neg, negK_i, e_if, e_chain, chK_b, e_tup, e_lst, e_idx, e_attr, e_slice, e_noP, e_partE, ptK2_i, e_star, starK_lst, starK_tup, e_meth, ma_join, ma_split, ma_append, ma_pop, ma_index, meK_str, meK_lst, sl_tup, sl_lst, e_lc, e_for, e_iany, e_ienu, e_par, e_asg, e_sub, e_fld, stK_s, eq_int, ne_int, eq_str, ne_str, sOk_lit, sOk_numS, lt_int, le_int, gt_int, ge_int, in_sign, is_non, isNot_non, is_tup, isNot_tup, is_int, isNot_int, len_tup, len_ctup, len_lst, add_int, sub_int, int_int, abs_int, tuple_lst, tuple_tup, list_lst, list_tup, all_bls, o_lst, any_str, any_tup, any_lst, enu_tup, enu_lst, startE, List.map_cons, List.map_nil, List.length_cons, List.length_nil, List.replicate, List.nil_append, List.cons_append, List.set_cons_zero, List.set_cons_succ, Nat.reduceAdd, Nat.reduceSub, if_true, if_false, Bool.false_eq_true, ite_true, ite_false, sz0, sz1, sz2, sz3, sz4, sz5, sz6, sz7, sz8, sz9, ix_tup0, ix_tup1, ix_tup2, ix_tup3, ix_tup4, ix_tup5, ix_lst0, ix_lst1, ix_lst2, ix_lst3, ix_lst4, ix_lst5, ix_ctup0, ix_ctup1, ix_ctup2, ix_ctup3, ix_ctup4, ix_ctup5, p60, p59, e1, e2, e3, e4, e_irng1, rng_ok hok, al_t', put2, put2']
  rw [e5]
  simp only [bind_ok, map_ok, toS_ok, seq_nx, seq_rt, runS_nx, runS_rt, noX_ok, d_val, d_own, al_val, al_f, e_seq, e_next, e_ret, e_retN, e_ifS, e_set, e_drop, e_A, e_D, e_val, e_var0, e_varS, e_nil, e_cons, e_cmp, e_bin, e_blt, e_call, e_bl, blK_b, e_tru, trK_b, e_notT, e_andT, e_orT, e_and, andK_b, e_or, orK_b, e_not, notK_b, e_neg, negK_i, e_if, e_chain, chK_b, e_tup, e_lst, e_idx, e_attr, e_slice, e_noP, e_partE, ptK2_i, e_star, starK_lst, starK_tup, e_meth, ma_join, ma_split, ma_append, ma_pop, ma_index, meK_str, meK_lst, sl_tup, sl_lst, e_lc, e_for, e_iany, e_ienu, e_par, e_asg, e_sub, e_fld, stK_s, eq_int, ne_int, eq_str, ne_str, sOk_lit, sOk_numS, lt_int, le_int, gt_int, ge_int, in_sign, is_non, isNot_non, is_tup, isNot_tup, is_int, isNot_int, len_tup, len_ctup, len_lst, add_int, sub_int, int_int, abs_int, tuple_lst, tuple_tup, list_lst, list_tup, all_bls, o_lst, any_str, any_tup, any_lst, enu_tup, enu_lst, startE, List.map_cons, List.map_nil, List.length_cons, List.length_nil, List.replicate, List.nil_append, List.cons_append, List.set_cons_zero, List.set_cons_succ, Nat.reduceAdd, Nat.reduceSub, if_true, if_false, Bool.false_eq_true, ite_true, ite_false, sz0, sz1, sz2, sz3, sz4, sz5, sz6, sz7, sz8, sz9, ix_tup0, ix_tup1, ix_tup2, ix_tup3, ix_tup4, ix_tup5, ix_lst0, ix_lst1, ix_lst2, ix_lst3, ix_lst4, ix_lst5, ix_ctup0, ix_ctup1, ix_ctup2, ix_ctup3, ix_ctup4, ix_ctup5, tuple_pen, any_pen, inc, put2, put2', n1, n2, m1, m2, o1, o2, o3, o4, mul7, mul3, mul2, add_lst, r1', r2', r3', r4', add_str z1, ne_str s1 s1, ne_str s2 s2, ne_str s3 s3, ne_str s4 s4, nb, g1, g2, g3, Bool.not_true]
  rfl
end
theorem law_holds (ns : List Int) (hl : ns.length ≤ 63) : ∃ M, (mkDy G T 12).call "law" [.scr ns] [] = .ok (.val (.bl true)) M := by
  have L := for_rng (i := 2) (n := 3) (a := lTurn) (P := fun j env M => ∃ (x2 y3 y4 y5 y6 y7 y8 y9 y10 y11 y12 y13 : Option D) (R : Mem) (t l : Int), env = [some (.scr ns), some (.ref 0), x2, y3, y4, y5, y6, y7, y8, y9, y10, y11, y12, y13] ∧ M = pen ns t l :: R ∧ Cl R ∧ 0 ≤ t ∧ t ≤ 100 * j)
    (fun j env M hj ⟨x2, x3, x4, x5, x6, x7, x8, x9, x10, x11, x12, x13, R, t, l, he, hM, hR, t0, t1⟩ => by
      subst he hM
      obtain ⟨y3, y4, y5, y6, y7, y8, y9, y10, y11, y12, y13, R', t', l', e, c, d, f⟩ := l_turn (l := l) hl hR t0 (by omega) (x2 := some (.int (j : Nat))) (x3 := x3) (x4 := x4) (x5 := x5) (x6 := x6) (x7 := x7) (x8 := x8) (x9 := x9) (x10 := x10) (x11 := x11) (x12 := x12) (x13 := x13)
      exact ⟨_, _, e, _, _, _, _, _, _, _, _, _, _, _, _, R', t', l', rfl, rfl, c, d, by omega⟩) 3 0 [some (.scr ns), some (.ref 0), none, none, none, none, none, none, none, none, none, none, none, none] [pen ns 0 0] rfl ⟨_, _, _, _, _, _, _, _, _, _, _, _, [], 0, 0, rfl, rfl, fun o ho => (List.not_mem_nil ho).elim, by omega, by omega⟩
  obtain ⟨env', M', h1, x2, y3, y4, y5, y6, y7, y8, y9, y10, y11, y12, y13, R, t, l, rfl, rfl, hR, _, _⟩ := L
  have e0 : (mkDy G T 11).call "_law_begun_pen" [.scr ns] [] = .ok (.own (pen ns 0 0)) [] := sp_begun 10 hl
  refine ⟨[], ?_⟩
  rw [show (mkDy G T 12).call "law" [.scr ns] [] = _ from c_law 11 _ _]
  unfold m_law
  unfold lTurn at h1
  simp only [bind_ok, map_ok, toS_ok, seq_nx, seq_rt, runS_nx, runS_rt, noX_ok, d_val, d_own, al_val, al_f, e_seq, e_next, e_ret, e_retN, e_ifS, e_set, e_drop, e_A, e_D, e_val, e_var0, e_varS, e_nil, e_cons, e_cmp, e_bin, e_blt, e_call, e_bl, blK_b, e_tru, trK_b, e_notT, e_andT, e_orT, e_and, andK_b, e_or, orK_b, e_not, notK_b, e_neg, negK_i, e_if, e_chain, chK_b, e_tup, e_lst, e_idx, e_attr, e_slice, e_noP, e_partE, ptK2_i, e_star, starK_lst, starK_tup, e_meth, ma_join, ma_split, ma_append, ma_pop, ma_index, meK_str, meK_lst, sl_tup, sl_lst, e_lc, e_for, e_iany, e_ienu, e_par, e_asg, e_sub, e_fld, stK_s, eq_int, ne_int, eq_str, ne_str, sOk_lit, sOk_numS, lt_int, le_int, gt_int, ge_int, in_sign, is_non, isNot_non, is_tup, isNot_tup, is_int, isNot_int, len_tup, len_ctup, len_lst, add_int, sub_int, int_int, abs_int, tuple_lst, tuple_tup, list_lst, list_tup, all_bls, o_lst, any_str, any_tup, any_lst, enu_tup, enu_lst, startE, List.map_cons, List.map_nil, List.length_cons, List.length_nil, List.replicate, List.nil_append, List.cons_append, List.set_cons_zero, List.set_cons_succ, Nat.reduceAdd, Nat.reduceSub, if_true, if_false, Bool.false_eq_true, ite_true, ite_false, sz0, sz1, sz2, sz3, sz4, sz5, sz6, sz7, sz8, sz9, ix_tup0, ix_tup1, ix_tup2, ix_tup3, ix_tup4, ix_tup5, ix_lst0, ix_lst1, ix_lst2, ix_lst3, ix_lst4, ix_lst5, ix_ctup0, ix_ctup1, ix_ctup2, ix_ctup3, ix_ctup4, ix_ctup5, e0, al_t', e_irng1, rng_3]
  simp only [ma_append] at h1
  rw [h1]
  rfl
end Pc

set_option Elab.async false
set_option linter.all false
set_option maxRecDepth 100000
set_option maxHeartbeats 0
set_option autoImplicit false
namespace Pc
open PySem PySem.Spec PyProof.Rows L2
abbrev hR : PySem.W.OpenRow := PySem.W.OpenLaw.row PySem.Challenge.rw_partlymet_k71_errors
def ex (K : PySem.W.Frag) : Bool := G.con.all (conB K) && xB hR.prog G K
def fns : List He.DefD := T.map FDef.defD
abbrev hk : PySem.W.Hook := hookP 4 (faOf G) fns ex
def ob (s : PySem.W.SharedT) : He.AlD × Bool := obsP 4 (faOf G) fns ex (HandSHeadRun.getT s)
theorem ob_eq (s : PySem.W.SharedT) : ob s = hk.obs s.abs := obsP_eq (HandSHeadRun.getT_eq s)
theorem tab_ok : tabOk G T = true := by kernel_rfl
theorem run (w : World) : HandSHeadRun.RunEq hR (PySem.W.view hR.prog [37]) hk ob 12000 nms w := by
  intro os
  kernel_rfl
end Pc

set_option Elab.async false
set_option linter.all false
set_option maxRecDepth 100000
set_option maxHeartbeats 0
set_option autoImplicit false
namespace Pc
open PySem PySem.Spec PyProof.Rows L2
theorem law_in : G.fnA.lookup ("law" : Str) = some 1 := by kernel_rfl
theorem law_at : T.fn ("law" : Str) = some f_law := by kernel_rfl
end Pc
open PySem PySem.W PySem.Calls PyProof.Rows
theorem Pc.holds (hlaw : ∀ ns : List Int, ns.length ≤ 63 → ∃ M, (Pc.mkDy Pc.G Pc.T 12).call "law" [.scr ns] [] = .ok (.val (.bl true)) M) : PySem.Challenge.rw_partlymet_k71_errors.Holds := by
  w_on; o_law
  refine HandSHeadRun.head_any (r := OpenLaw.row PySem.Challenge.rw_partlymet_k71_errors) (q := view (OpenLaw.row PySem.Challenge.rw_partlymet_k71_errors).prog [37]) (H := Pc.hk) (ob := Pc.ob) (M := 12000) (loose := Pc.nms) (d := HandSHeadRun.topDef (OpenLaw.row PySem.Challenge.rw_partlymet_k71_errors).prog 37) (kwd := []) Pc.ob_eq
    (by kernel_rfl) (fun s => by kernel_rfl) Pc.run (by kernel_rfl) (by kernel_rfl) (by kernel_rfl) (by rfl) (by first | assumption | decide +kernel) (by decide +kernel) ⟨rfl, rfl, rfl, rfl, rfl, by decide +kernel⟩ ?hw ?hc
  case hw => w_witness2
  case hc =>
    refine Pc.walk_G (l := PySem.Challenge.rw_partlymet_k71_errors) (n := 63) (k := 24) (x := "script") (CX := Pc.CXA (PySem.Challenge.rw_partlymet_k71_errors).prog) rfl (by decide) (by kernel_rfl) ⟨rfl, by decide, by decide⟩ ?F Pc.cxa_none
    intro w mg fa h Y N hmg0
    obtain ⟨K, KX, c, c2⟩ := Y
    have hmg : mg ("law" : PySem.Str) = some (.ref fa) := by
      have e : (HandSHeadRun.topDef (OpenLaw.row PySem.Challenge.rw_partlymet_k71_errors).prog 37).name = ("law" : PySem.Str) := by kernel_rfl
      rw [← e]
      exact hmg0
    have c2 : (Pc.G.con.all (Pc.conB K) && Pc.xB Pc.hR.prog Pc.G K) = true := c2
    rw [Bool.and_eq_true] at c2
    obtain ⟨fd, sp, h1, h2, h3⟩ := Pc.law_facts (n := 11) (x := "script") (P := (PySem.Challenge.rw_partlymet_k71_errors).prog) (w := w) Pc.tab_ok Pc.law_in Pc.law_at (by kernel_rfl) hlaw KX N hmg c c2.1 c2.2
    exact ⟨K, fd, sp, KX, h1, h2, h3⟩

set_option maxRecDepth 100000 in
set_option maxHeartbeats 0 in
theorem PySem.Challenge.cw_partlymet_k71_errors_holds : PySem.Challenge.rw_partlymet_k71_errors.Holds := by
  exact Pc.holds Pc.law_holds
