import PyProof.Rows.All
import Wide.All
import OpenK.AllK
import Wide.FinOn
import HandS.ForMost
import HandS.Walk
import HandS.Evl
import HandS.Set
import HandS.SetBool
import PyProof.Rows.SortShellAny
import HandS.TupAny
import HandS.RaiseMore
import HandS.Wide
import HandS.WideBits
import HandS.Style
import HandS.Flow
import KE.GoesMore
import KE.GoesEnum
import PyProof.ReprRoads
import HandS.Strs
import PyProof.ReprLen
import PySem.Challenge.RW_mostcrowds_k02_kinds
set_option Elab.async false
set_option linter.all false
set_option maxRecDepth 100000
set_option maxHeartbeats 8000000
/-! Data by content, and readings over data. -/
namespace Mc
open PySem PySem.Spec PyProof.Rows L2 Evl

/-! ### data -/
inductive Dt where
  | non | bl (b : Bool) | int (i : Int) | str (x : Str) | ty (n : String)
  | ptr (a : Addr)
  | lst (ds : List Dt) | tup (ds : List Dt)
  | obj (C : Addr) (fs : List (Str × Dt))

mutual
def Rp (K : PySem.W.Frag) (H : Hp) : Dt → V → Prop
  | .non, v => v = .non
  | .bl b, v => v = .bl b
  | .int i, v => v = .int i
  | .str x, v => v = .str x
  | .ty n, v => v = .ty n
  | .ptr a, v => v = .ref a
  | .lst ds, v => ∃ a xs, v = .ref a ∧ H a = some (.lst xs) ∧ RpA K H ds xs
  | .tup ds, v => ∃ a xs, v = .ref a ∧ SqT K H a xs ∧ RpA K H ds xs
  | .obj C fs, v => ∃ a dx gs, v = .ref a ∧ H a = some (.ins C dx gs) ∧ RpF K H fs gs
def RpA (K : PySem.W.Frag) (H : Hp) : List Dt → List V → Prop
  | [], vs => vs = []
  | d :: ds, vs => ∃ v r, vs = v :: r ∧ Rp K H d v ∧ RpA K H ds r
def RpF (K : PySem.W.Frag) (H : Hp) : List (Str × Dt) → List (Str × V) → Prop
  | [], gs => gs = []
  | f :: fs, gs => ∃ v r, gs = (f.1, v) :: r ∧ Rp K H f.2 v ∧ RpF K H fs r
end

/-- the heap without some addresses -/
def cut (S : List Addr) (H : Hp) : Hp := fun b => if b ∈ S then none else H b
theorem cut_in {S : List Addr} {H : Hp} {b : Addr} (h : b ∈ S) : cut S H b = none := by unfold cut; rw [if_pos h]
theorem cut_out {S : List Addr} {H : Hp} {b : Addr} (h : b ∉ S) : cut S H b = H b := by unfold cut; rw [if_neg h]
theorem cut_some {S : List Addr} {H : Hp} {b : Addr} {o : HO} (h : cut S H b = some o) : H b = some o ∧ b ∉ S := by
  unfold cut at h
  split at h
  · cases h
  · exact ⟨h, by assumption⟩
theorem cut_le (S : List Addr) (H : Hp) : Ex (cut S H) H := fun _ _ h => (cut_some h).1
theorem cut_ex {S : List Addr} {H H' : Hp} (e : Ex H H') : Ex (cut S H) (cut S H') := fun b o h => by
  obtain ⟨h1, h2⟩ := cut_some h
  rw [cut_out h2]
  exact e b o h1
theorem cut_mut {S : List Addr} {H : Hp} {b : Addr} {o : HO} (h : b ∈ S) : cut S (upd H b o) = cut S H := by
  funext c
  unfold cut upd
  by_cases hc : c ∈ S
  · rw [if_pos hc, if_pos hc]
  · rw [if_neg hc, if_neg hc, if_neg (fun e : c = b => hc (by rw [e]; exact h))]
theorem cut_more {S : List Addr} {H : Hp} {l : Addr} : Ex (cut (l :: S) H) (cut S H) := fun b o h => by
  obtain ⟨h1, h2⟩ := cut_some h
  rw [cut_out (fun z => h2 (List.mem_cons_of_mem _ z))]
  exact h1
/-- what is not tracked need not be left out -/
theorem cut_fresh {S : List Addr} {H : Hp} {l : Addr} (h : H l = none) : cut (l :: S) H = cut S H := by
  funext c
  unfold cut
  by_cases e : c = l
  · subst e
    rw [if_pos List.mem_cons_self]
    split
    · rfl
    · exact h.symm
  · by_cases hc : c ∈ S
    · rw [if_pos hc, if_pos (List.mem_cons_of_mem _ hc)]
    · rw [if_neg hc, if_neg (fun z => (List.mem_cons.mp z).elim e hc)]

mutual
theorem Rp.mono {K : PySem.W.Frag} {H H' : Hp} (e : Ex H H') : ∀ {d : Dt} {v : V}, Rp K H d v → Rp K H' d v
  | .non, _, h => h
  | .bl _, _, h => h
  | .int _, _, h => h
  | .str _, _, h => h
  | .ty _, _, h => h
  | .ptr _, _, h => h
  | .lst _, _, ⟨a, xs, h1, h2, h3⟩ => ⟨a, xs, h1, e _ _ h2, RpA.mono e h3⟩
  | .tup _, _, ⟨a, xs, h1, h2, h3⟩ => ⟨a, xs, h1, ex_t e h2, RpA.mono e h3⟩
  | .obj _ _, _, ⟨a, dx, gs, h1, h2, h3⟩ => ⟨a, dx, gs, h1, e _ _ h2, RpF.mono e h3⟩
theorem RpA.mono {K : PySem.W.Frag} {H H' : Hp} (e : Ex H H') : ∀ {ds : List Dt} {vs : List V}, RpA K H ds vs → RpA K H' ds vs
  | [], _, h => h
  | _ :: _, _, ⟨v, r, h1, h2, h3⟩ => ⟨v, r, h1, Rp.mono e h2, RpA.mono e h3⟩
theorem RpF.mono {K : PySem.W.Frag} {H H' : Hp} (e : Ex H H') : ∀ {fs : List (Str × Dt)} {gs : List (Str × V)}, RpF K H fs gs → RpF K H' fs gs
  | [], _, h => h
  | _ :: _, _, ⟨v, r, h1, h2, h3⟩ => ⟨v, r, h1, Rp.mono e h2, RpF.mono e h3⟩
end
theorem RpA.length {K : PySem.W.Frag} {H : Hp} : ∀ {ds : List Dt} {vs : List V}, RpA K H ds vs → vs.length = ds.length
  | [], _, h => by
    have e : _ = [] := h
    rw [e]
    rfl
  | d :: ds, _, ⟨v, r, h1, _, h3⟩ => by
    rw [h1, List.length_cons, List.length_cons, RpA.length h3]
theorem RpA.get {K : PySem.W.Frag} {H : Hp} : ∀ {ds : List Dt} {vs : List V} {i : Nat} {v : V}, RpA K H ds vs → vs[i]? = some v → ∃ d, ds[i]? = some d ∧ Rp K H d v
  | [], _, i, v, h, e => by
    have e' : _ = [] := h
    rw [e'] at e
    simp at e
  | d :: ds, _, 0, v, ⟨w, r, h1, h2, _⟩, e => by
    rw [h1] at e
    have e' : w = v := by simpa using e
    exact ⟨d, rfl, e' ▸ h2⟩
  | d :: ds, _, i + 1, v, ⟨w, r, h1, _, h3⟩, e => by
    rw [h1] at e
    exact RpA.get (i := i) h3 (by simpa using e)
theorem RpA.get' {K : PySem.W.Frag} {H : Hp} : ∀ {ds : List Dt} {vs : List V} {i : Nat} {d : Dt}, RpA K H ds vs → ds[i]? = some d → ∃ v, vs[i]? = some v ∧ Rp K H d v
  | [], _, i, d, _, e => by simp at e
  | d :: ds, _, 0, d', ⟨w, r, h1, h2, _⟩, e => by
    have e' : d = d' := by simpa using e
    exact ⟨w, by rw [h1]; rfl, e' ▸ h2⟩
  | d :: ds, _, i + 1, d', ⟨w, r, h1, _, h3⟩, e => by
    obtain ⟨v, hv, hr⟩ := RpA.get' (i := i) h3 (by simpa using e)
    exact ⟨v, by rw [h1]; simpa using hv, hr⟩
theorem RpA.append {K : PySem.W.Frag} {H : Hp} : ∀ {ds es : List Dt} {vs ws : List V}, RpA K H ds vs → RpA K H es ws → RpA K H (ds ++ es) (vs ++ ws)
  | [], es, _, ws, h, h' => by
    have e : _ = [] := h
    rw [e]
    exact h'
  | d :: ds, es, _, ws, ⟨v, r, h1, h2, h3⟩, h' => ⟨v, r ++ ws, by rw [h1]; rfl, h2, RpA.append h3 h'⟩
theorem RpA.one {K : PySem.W.Frag} {H : Hp} {d : Dt} {v : V} (h : Rp K H d v) : RpA K H [d] [v] := ⟨v, [], rfl, h, rfl⟩
theorem RpA.take {K : PySem.W.Frag} {H : Hp} : ∀ {n : Nat} {ds : List Dt} {vs : List V}, RpA K H ds vs → RpA K H (ds.take n) (vs.take n)
  | 0, _, _, _ => rfl
  | n + 1, [], _, h => by
    have e : _ = [] := h
    rw [e]
    rfl
  | n + 1, d :: ds, _, ⟨v, r, h1, h2, h3⟩ => ⟨v, r.take n, by rw [h1]; rfl, h2, RpA.take h3⟩
theorem RpA.drop {K : PySem.W.Frag} {H : Hp} : ∀ {n : Nat} {ds : List Dt} {vs : List V}, RpA K H ds vs → RpA K H (ds.drop n) (vs.drop n)
  | 0, _, _, h => h
  | n + 1, [], _, h => by
    have e : _ = [] := h
    rw [e]
    rfl
  | n + 1, d :: ds, _, ⟨v, r, h1, _, h3⟩ => by
    rw [h1]
    exact RpA.drop (n := n) h3
theorem RpA.reverse {K : PySem.W.Frag} {H : Hp} : ∀ {ds : List Dt} {vs : List V}, RpA K H ds vs → RpA K H ds.reverse vs.reverse
  | [], _, h => by
    have e : _ = [] := h
    rw [e]
    rfl
  | d :: ds, _, ⟨v, r, h1, h2, h3⟩ => by
    rw [h1, List.reverse_cons, List.reverse_cons]
    exact RpA.append (RpA.reverse h3) (RpA.one h2)
/-- texts, ints -/
theorem rpA_strs {K : PySem.W.Frag} {H : Hp} : ∀ {xs : List Str} {vs : List V}, RpA K H (xs.map Dt.str) vs ↔ vs = xs.map V.str
  | [], _ => Iff.rfl
  | x :: xs, vs => by
    constructor
    · rintro ⟨v, r, h1, h2, h3⟩
      have e2 : v = V.str x := h2
      rw [h1, e2, rpA_strs.mp h3]
      rfl
    · intro h
      exact ⟨.str x, xs.map V.str, h, rfl, rpA_strs.mpr rfl⟩
theorem rpA_ints {K : PySem.W.Frag} {H : Hp} : ∀ {xs : List Int} {vs : List V}, RpA K H (xs.map Dt.int) vs ↔ vs = xs.map V.int
  | [], _ => Iff.rfl
  | x :: xs, vs => by
    constructor
    · rintro ⟨v, r, h1, h2, h3⟩
      have e2 : v = V.int x := h2
      rw [h1, e2, rpA_ints.mp h3]
      rfl
    · intro h
      exact ⟨.int x, xs.map V.int, h, rfl, rpA_ints.mpr rfl⟩
theorem rpA_bls {K : PySem.W.Frag} {H : Hp} : ∀ {xs : List Bool} {vs : List V}, RpA K H (xs.map Dt.bl) vs ↔ vs = xs.map V.bl
  | [], _ => Iff.rfl
  | x :: xs, vs => by
    constructor
    · rintro ⟨v, r, h1, h2, h3⟩
      have e2 : v = V.bl x := h2
      rw [h1, e2, rpA_bls.mp h3]
      rfl
    · intro h
      exact ⟨.bl x, xs.map V.bl, h, rfl, rpA_bls.mpr rfl⟩

/-! ### slots by data -/
abbrev Ds := List (Option Dt)
def RpS (K : PySem.W.Frag) (H : Hp) : Ds → L2.St → Prop
  | [], σ => σ = []
  | o :: ds, σ => ∃ x r, σ = x :: r ∧ (∀ d, o = some d → ∃ v, x = some v ∧ Rp K H d v) ∧ RpS K H ds r
theorem RpS.mono {K : PySem.W.Frag} {H H' : Hp} (e : Ex H H') : ∀ {ds : Ds} {σ : L2.St}, RpS K H ds σ → RpS K H' ds σ
  | [], _, h => h
  | _ :: _, _, ⟨x, r, h1, h2, h3⟩ => ⟨x, r, h1, fun d hd => let ⟨v, a, b⟩ := h2 d hd; ⟨v, a, b.mono e⟩, RpS.mono e h3⟩
theorem RpS.get {K : PySem.W.Frag} {H : Hp} : ∀ {ds : Ds} {σ : L2.St} {i : Nat} {d : Dt}, RpS K H ds σ → ds[i]? = some (some d) → ∃ v, σ[i]? = some (some v) ∧ Rp K H d v
  | [], _, i, d, _, e => by simp at e
  | o :: ds, _, 0, d, ⟨x, r, h1, h2, _⟩, e => by
    have e' : o = some d := by simpa using e
    obtain ⟨v, hv, hr⟩ := h2 d e'
    exact ⟨v, by rw [h1, hv]; rfl, hr⟩
  | o :: ds, _, i + 1, d, ⟨x, r, h1, _, h3⟩, e => by
    obtain ⟨v, hv, hr⟩ := RpS.get (i := i) h3 (by simpa using e)
    exact ⟨v, by rw [h1]; simpa using hv, hr⟩
theorem RpS.set {K : PySem.W.Frag} {H : Hp} {d : Dt} {v : V} (hr : Rp K H d v) : ∀ {ds : Ds} {σ : L2.St} {i : Nat}, RpS K H ds σ → RpS K H (ds.set i (some d)) (σ.set i (some v))
  | [], _, i, h => by
    have e : _ = [] := h
    rw [e]
    exact rfl
  | o :: ds, _, 0, ⟨x, r, h1, _, h3⟩ => ⟨some v, r, by rw [h1]; rfl, fun d' e => ⟨v, rfl, (Option.some.inj e) ▸ hr⟩, h3⟩
  | o :: ds, _, i + 1, ⟨x, r, h1, h2, h3⟩ => ⟨x, r.set i (some v), by rw [h1]; rfl, h2, RpS.set hr h3⟩
theorem RpS.forget {K : PySem.W.Frag} {H : Hp} : ∀ {ds : Ds} {σ : L2.St} {i : Nat} {x : Option V}, RpS K H ds σ → RpS K H (ds.set i none) (σ.set i x)
  | [], _, i, x, h => by
    have e : _ = [] := h
    rw [e]
    exact rfl
  | o :: ds, _, 0, x', ⟨x, r, h1, _, h3⟩ => ⟨x', r, by rw [h1]; rfl, (fun d' e => by cases e), h3⟩
  | o :: ds, _, i + 1, x', ⟨x, r, h1, h2, h3⟩ => ⟨x, r.set i x', by rw [h1]; rfl, h2, RpS.forget h3⟩
def wipeD (ds : Ds) : List Nat → Ds
  | [] => ds
  | i :: is => wipeD (ds.set i none) is
/-- fewer facts -/
def LeD : Ds → Ds → Prop
  | [], ds => ds = []
  | o :: es, ds => ∃ x r, ds = x :: r ∧ (o = none ∨ o = x) ∧ LeD es r
theorem RpS.weak {K : PySem.W.Frag} {H : Hp} : ∀ {es ds : Ds} {σ : L2.St}, LeD es ds → RpS K H ds σ → RpS K H es σ
  | [], _, _, h, q => by
    have e : _ = [] := h
    rw [e] at q
    exact q
  | o :: es, _, _, ⟨x, r, h1, h2, h3⟩, q => by
    rw [h1] at q
    obtain ⟨y, t, q1, q2, q3⟩ := q
    refine ⟨y, t, q1, fun d hd => ?_, RpS.weak h3 q3⟩
    rcases h2 with h2 | h2
    · rw [h2] at hd
      cases hd
    · exact q2 d (h2 ▸ hd)

/-! ### modes: what may change (S), what is kept besides (J) -/
structure Mode where
  K : PySem.W.Frag
  S : List Addr
  J : Hp → Prop
structure Mode.Ok (M : Mode) : Prop where
  ex : ∀ {H H' : Hp}, Ex H H' → M.J H → M.J H'
  tr : ∀ {H : Hp}, M.J H → ∀ b ∈ M.S, H b ≠ none
  mu : ∀ {H H' : Hp} {D : Addr}, M.J H → H D = none → M.J H' → ∀ o, M.J (upd H' D o)
def Mode.St (M : Mode) (δ : Ds) (σ : L2.St) (H : Hp) : Prop := RpS M.K (cut M.S H) δ σ ∧ M.J H
def Mode.Le (M : Mode) (H H' : Hp) : Prop := Ex (cut M.S H) (cut M.S H')
def Mode.R (M : Mode) (H : Hp) (d : Dt) (v : V) : Prop := Rp M.K (cut M.S H) d v
theorem Mode.St.next {M : Mode} {δ : Ds} {σ : L2.St} {H H' : Hp} (s : M.St δ σ H) (e : M.Le H H') (j : M.J H') : M.St δ σ H' := ⟨s.1.mono e, j⟩
theorem Mode.St.set {M : Mode} {δ : Ds} {σ : L2.St} {H : Hp} {i : Nat} {d : Dt} {v : V} (s : M.St δ σ H) (r : M.R H d v) : M.St (δ.set i (some d)) (σ.set i (some v)) H := ⟨s.1.set r, s.2⟩
theorem Mode.Le.refl {M : Mode} {H : Hp} : M.Le H H := Ex.refl _
theorem Mode.Le.trans {M : Mode} {H H1 H2 : Hp} (a : M.Le H H1) (b : M.Le H1 H2) : M.Le H H2 := Ex.trans a b
theorem Mode.le {M : Mode} {H H' : Hp} (e : Ex H H') : M.Le H H' := cut_ex e
/-- a new object lies outside S -/
theorem Mode.Ok.out {M : Mode} (o : M.Ok) {H : Hp} {p : Addr} (j : M.J H) (h : H p = none) : p ∉ M.S := fun z => o.tr j p z h
theorem Mode.Ok.newT {M : Mode} (o : M.Ok) {H : Hp} {p : Addr} {ds : List Dt} {xs : List V} (j : M.J H) (h : H p = none) (r : RpA M.K (cut M.S H) ds xs) :
    Ex H (upd H p (.tup xs)) ∧ M.J (upd H p (.tup xs)) ∧ M.R (upd H p (.tup xs)) (.tup ds) (.ref p) := by
  have e : Ex H (upd H p (.tup xs)) := Ex.new h
  refine ⟨e, o.ex e j, p, xs, rfl, Or.inl (Or.inl ?_), r.mono (cut_ex e)⟩
  rw [cut_out (o.out j h)]
  exact upd_same
theorem Mode.Ok.newL {M : Mode} (o : M.Ok) {H : Hp} {p : Addr} {ds : List Dt} {xs : List V} (j : M.J H) (h : H p = none) (r : RpA M.K (cut M.S H) ds xs) :
    Ex H (upd H p (.lst xs)) ∧ M.J (upd H p (.lst xs)) ∧ M.R (upd H p (.lst xs)) (.lst ds) (.ref p) := by
  have e : Ex H (upd H p (.lst xs)) := Ex.new h
  refine ⟨e, o.ex e j, p, xs, rfl, ?_, r.mono (cut_ex e)⟩
  rw [cut_out (o.out j h)]
  exact upd_same

/-! ### a mode within another: more is left out, more is kept -/
structure Mode.Sub (M N : Mode) : Prop where
  k : N.K = M.K
  ok : N.Ok
  s : ∀ b ∈ M.S, b ∈ N.S
  j : ∀ {H : Hp}, N.J H → M.J H
  st : ∀ {H H' : Hp}, N.J H → M.J H' → Ex (cut M.S H) (cut M.S H') → N.J H'
theorem Mode.Ok.sub {M : Mode} (o : M.Ok) : M.Sub M := ⟨rfl, o, fun _ h => h, fun h => h, fun _ h _ => h⟩
theorem cut_sub {S T : List Addr} {H : Hp} (h : ∀ b ∈ S, b ∈ T) : Ex (cut T H) (cut S H) := fun b o e => by
  obtain ⟨h1, h2⟩ := cut_some e
  rw [cut_out (fun z => h2 (h b z))]
  exact h1
theorem cut_exs {S T : List Addr} {H H' : Hp} (h : ∀ b ∈ S, b ∈ T) (e : Ex (cut S H) (cut S H')) : Ex (cut T H) (cut T H') := fun b o z => by
  obtain ⟨h1, h2⟩ := cut_some z
  have q := e b o (by rw [cut_out (fun y => h2 (h b y))]; exact h1)
  rw [cut_out h2]
  exact (cut_some q).1
theorem Mode.Sub.trans {M N P : Mode} (a : M.Sub N) (b : N.Sub P) : M.Sub P := ⟨b.k.trans a.k, b.ok, fun x h => b.s x (a.s x h), fun h => a.j (b.j h), fun h1 h2 h3 =>
  b.st h1 (a.st (b.j h1) h2 h3) (cut_exs a.s h3)⟩

/-! ### readings over data -/
def EvP (M : Mode) (te : TE) (δ : Ds) (P : Dt → Prop) : Prop := ∀ N, M.Sub N → ∀ σ H, N.St δ σ H → ∀ Q : VK, (∀ d v H', P d → N.Le H H' → N.J H' → N.R H' d v → Q v H') → te σ H Q
def EvQ (M : Mode) (tt : TT) (δ : Ds) (P : Bool → Prop) : Prop := ∀ N, M.Sub N → ∀ σ H, N.St δ σ H → ∀ Q : Bool → Hp → Prop, (∀ b H', P b → N.Le H H' → N.J H' → Q b H') → tt σ H Q
def EvAP (M : Mode) (ta : TA) (δ : Ds) (P : List Dt → Prop) : Prop := ∀ N, M.Sub N → ∀ σ H, N.St δ σ H → ∀ Q : List V → Hp → Prop, (∀ ds vs H', P ds → N.Le H H' → N.J H' → RpA N.K (cut N.S H') ds vs → Q vs H') → ta σ H Q
def EvOp (M : Mode) (to : TO) (δ : Ds) (P : Option Int → Prop) : Prop := ∀ N, M.Sub N → ∀ σ H, N.St δ σ H → ∀ Q : Option Int → Hp → Prop, (∀ o H', P o → N.Le H H' → N.J H' → Q o H') → to σ H Q
def R2P (M : Mode) (r : R2) (d e : Dt) (P : Dt → Prop) : Prop := ∀ N, M.Sub N → ∀ x y H, N.J H → N.R H d x → N.R H e y → ∀ Q : VK, (∀ f v H', P f → N.Le H H' → N.J H' → N.R H' f v → Q v H') → r x y H Q
def RUP (M : Mode) (r : V → Hp → VK → Prop) (d : Dt) (P : Dt → Prop) : Prop := ∀ N, M.Sub N → ∀ x H, N.J H → N.R H d x → ∀ Q : VK, (∀ f v H', P f → N.Le H H' → N.J H' → N.R H' f v → Q v H') → r x H Q
def RCP (M : Mode) (r : List V → Hp → VK → Prop) (ds : List Dt) (P : Dt → Prop) : Prop := ∀ N, M.Sub N → ∀ vs H, N.J H → RpA N.K (cut N.S H) ds vs → ∀ Q : VK, (∀ f v H', P f → N.Le H H' → N.J H' → N.R H' f v → Q v H') → r vs H Q
abbrev EvD (M : Mode) (te : TE) (δ : Ds) (d : Dt) : Prop := EvP M te δ (fun x => x = d)
abbrev EvB (M : Mode) (tt : TT) (δ : Ds) (b : Bool) : Prop := EvQ M tt δ (fun x => x = b)
abbrev EvAs (M : Mode) (ta : TA) (δ : Ds) (ds : List Dt) : Prop := EvAP M ta δ (fun x => x = ds)
abbrev EvO (M : Mode) (to : TO) (δ : Ds) (o : Option Int) : Prop := EvOp M to δ (fun x => x = o)
abbrev R2D (M : Mode) (r : R2) (d e f : Dt) : Prop := R2P M r d e (fun x => x = f)
abbrev RUD (M : Mode) (r : V → Hp → VK → Prop) (d f : Dt) : Prop := RUP M r d (fun x => x = f)
abbrev RCD (M : Mode) (r : List V → Hp → VK → Prop) (ds : List Dt) (f : Dt) : Prop := RCP M r ds (fun x => x = f)

section
variable {M : Mode} {δ : Ds} {ta tb te tx : TE} {t u : TT} {d e f : Dt} {r : R2} {P P' : Dt → Prop}
theorem EvP.sub {N : Mode} (h : EvP M te δ P) (s : M.Sub N) : EvP N te δ P := fun N' s' => h N' (s.trans s')
theorem EvP.weak (h : EvP M te δ P) (w : ∀ d, P d → P' d) : EvP M te δ P' := fun N s σ H st Q q => h N s σ H st Q fun d v H' hp => q d v H' (w d hp)
theorem EvQ.weak {P P' : Bool → Prop} (h : EvQ M t δ P) (w : ∀ d, P d → P' d) : EvQ M t δ P' := fun N s σ H st Q q => h N s σ H st Q fun d H' hp => q d H' (w d hp)
/-- fewer facts are needed than there are -/
theorem EvP.le {δ' : Ds} (h : EvP M te δ P) (w : LeD δ δ') : EvP M te δ' P := fun N s σ H st Q q => h N s σ H ⟨st.1.weak w, st.2⟩ Q q
theorem ed_var {i : Nat} (h : δ[i]? = some (some d)) : EvD M (tVar i) δ d := fun N _ σ H s Q q => by
  obtain ⟨v, hv, hr⟩ := s.1.get h
  exact ⟨v, hv, q d v H rfl Mode.Le.refl s.2 hr⟩
theorem ed_int {i : Int} : EvD M (tC (.int i)) δ (.int i) := fun N _ _ H s _ q => q _ _ H rfl Mode.Le.refl s.2 rfl
theorem ed_str {x : Str} : EvD M (tC (.str x)) δ (.str x) := fun N _ _ H s _ q => q _ _ H rfl Mode.Le.refl s.2 rfl
theorem ed_bl {b : Bool} : EvD M (tC (.bl b)) δ (.bl b) := fun N _ _ H s _ q => q _ _ H rfl Mode.Le.refl s.2 rfl
theorem ed_non : EvD M (tC .non) δ .non := fun N _ _ H s _ q => q _ _ H rfl Mode.Le.refl s.2 rfl
theorem ed_ty {n : String} : EvD M (tC (.ty n)) δ (.ty n) := fun N _ _ H s _ q => q _ _ H rfl Mode.Le.refl s.2 rfl
theorem ep_op {P1 : Dt → Prop} {P2 : Dt → Dt → Prop} (ha : EvP M ta δ P1) (hb : ∀ d, P1 d → EvP M tb δ (P2 d)) (hr : ∀ d e, P1 d → P2 d e → R2P M r d e P) : EvP M (tOp r ta tb) δ P := fun N n σ H s Q q =>
  ha N n σ H s _ fun d x H1 p1 e1 j1 r1 => hb d p1 N n σ H1 (s.next e1 j1) _ fun e y H2 p2 e2 j2 r2 => hr d e p1 p2 N n x y H2 j2 (r1.mono e2) r2 Q fun f v H3 p3 e3 j3 r3 => q f v H3 p3 ((e1.trans e2).trans e3) j3 r3
theorem ed_op (ha : EvD M ta δ d) (hb : EvD M tb δ e) (hr : R2P M r d e P) : EvP M (tOp r ta tb) δ P :=
  ep_op ha (fun _ _ => hb) fun _ _ h1 h2 => by rw [h1, h2]; exact hr
theorem ep_un {r : V → Hp → VK → Prop} {P1 : Dt → Prop} (ha : EvP M ta δ P1) (hr : ∀ d, P1 d → RUP M r d P) : EvP M (tUn r ta) δ P := fun N n σ H s Q q =>
  ha N n σ H s _ fun d x H1 p1 e1 j1 r1 => hr d p1 N n x H1 j1 r1 Q fun f v H2 p2 e2 j2 r2 => q f v H2 p2 (e1.trans e2) j2 r2
theorem ed_un {r : V → Hp → VK → Prop} (ha : EvD M ta δ d) (hr : RUP M r d P) : EvP M (tUn r ta) δ P := ep_un ha fun _ h => by rw [h]; exact hr
theorem ea_nil : EvAs M tNil δ [] := fun N _ _ H s _ q => q [] [] H rfl Mode.Le.refl s.2 rfl
theorem eap_cons {tr : TA} {P1 : Dt → Prop} {P2 : Dt → List Dt → Prop} (h : EvP M ta δ P1) (hr : ∀ d, P1 d → EvAP M tr δ (P2 d)) : EvAP M (tCons ta tr) δ (fun l => ∃ d ds, P1 d ∧ P2 d ds ∧ l = d :: ds) := fun N n σ H s Q q =>
  h N n σ H s _ fun d x H1 p1 e1 j1 r1 => hr d p1 N n σ H1 (s.next e1 j1) _ fun ds xs H2 p2 e2 j2 r2 => q (d :: ds) (x :: xs) H2 ⟨d, ds, p1, p2, rfl⟩ (e1.trans e2) j2 ⟨x, xs, rfl, r1.mono e2, r2⟩
theorem EvAP.weak {ta : TA} {P P' : List Dt → Prop} (h : EvAP M ta δ P) (w : ∀ d, P d → P' d) : EvAP M ta δ P' := fun N s σ H st Q q => h N s σ H st Q fun d v H' hp => q d v H' (w d hp)
theorem ea_cons {tr : TA} {ds : List Dt} (h : EvD M ta δ d) (hr : EvAs M tr δ ds) : EvAs M (tCons ta tr) δ (d :: ds) :=
  (eap_cons h fun _ _ => hr).weak fun l ⟨_, _, h1, h2, h3⟩ => by rw [h3, h1, h2]
theorem ep_cb {r : List V → Hp → VK → Prop} {ta : TA} {P1 : List Dt → Prop} (h : EvAP M ta δ P1) (hr : ∀ ds, P1 ds → RCP M r ds P) : EvP M (tCB r ta) δ P := fun N n σ H s Q q =>
  h N n σ H s _ fun ds vs H1 p1 e1 j1 r1 => hr ds p1 N n vs H1 j1 r1 Q fun f v H2 p2 e2 j2 r2 => q f v H2 p2 (e1.trans e2) j2 r2
theorem ed_cb {r : List V → Hp → VK → Prop} {ta : TA} {ds : List Dt} (h : EvAs M ta δ ds) (hr : RCP M r ds P) : EvP M (tCB r ta) δ P := ep_cb h fun _ w => by rw [w]; exact hr
theorem ed_lst {ta : TA} {ds : List Dt} (h : EvAs M ta δ ds) (hl : ds.length ≤ 100000 := by first | decide | simp) : EvD M (tLst ta) δ (.lst ds) := fun N n σ H s Q q =>
  h N n σ H s _ fun ds' xs H1 p1 e1 j1 r1 => by
    subst p1
    exact ⟨sz_of (by rw [r1.length]; exact hl), fun p hp => by
      obtain ⟨ex, j2, r2⟩ := n.ok.newL j1 hp r1
      exact q _ _ _ rfl (e1.trans (N.le ex)) j2 r2⟩
theorem ed_tup {ta : TA} {ds : List Dt} (h : EvAs M ta δ ds) (hl : ds.length ≤ 100000 := by first | decide | simp) : EvD M (tTup ta) δ (.tup ds) := fun N n σ H s Q q =>
  h N n σ H s _ fun ds' xs H1 p1 e1 j1 r1 => by
    subst p1
    exact ⟨sz_of (by rw [r1.length]; exact hl), fun p hp => by
      obtain ⟨ex, j2, r2⟩ := n.ok.newT j1 hp r1
      exact q _ _ _ rfl (e1.trans (N.le ex)) j2 r2⟩
/-- ints -/
theorem flat_up {N : Mode} {H : Hp} {v : V} (h : N.R (fun _ => none) f v) : N.R H f v := Rp.mono (fun b o z => by have z' := (cut_some z).1; cases z') h
theorem rd_I0 {g : Int → Int → V} {i j : Int} (h : ∀ N : Mode, N.R (fun _ => none) f (g i j)) : R2D M (rI0 g) (.int i) (.int j) f := fun N n x y H hj hx hy Q q =>
  ⟨i, j, hx, hy, q f _ H rfl Mode.Le.refl hj (flat_up (h N))⟩
theorem rd_I {C : Int → Int → Prop} {g : Int → Int → V} {i j : Int} (hc : C i j) (h : ∀ N : Mode, N.R (fun _ => none) f (g i j)) : R2D M (rI C g) (.int i) (.int j) f := fun N n x y H hj hx hy Q q =>
  ⟨i, j, hx, hy, hc, q f _ H rfl Mode.Le.refl hj (flat_up (h N))⟩
theorem rd_U {g : Int → V} {i : Int} (h : ∀ N : Mode, N.R (fun _ => none) f (g i)) : RUD M (rU g) (.int i) f := fun N n x H hj hx Q q =>
  ⟨i, hx, q f _ H rfl Mode.Le.refl hj (flat_up (h N))⟩
theorem ed_I0 {g : Int → Int → V} {i j : Int} (ha : EvD M ta δ (.int i)) (hb : EvD M tb δ (.int j)) (h : ∀ N : Mode, N.R (fun _ => none) f (g i j)) : EvD M (tOp (rI0 g) ta tb) δ f := ed_op ha hb (rd_I0 h)
theorem ed_I {C : Int → Int → Prop} {g : Int → Int → V} {i j : Int} (ha : EvD M ta δ (.int i)) (hb : EvD M tb δ (.int j)) (hc : C i j) (h : ∀ N : Mode, N.R (fun _ => none) f (g i j)) : EvD M (tOp (rI C g) ta tb) δ f := ed_op ha hb (rd_I hc h)
/-- tests -/
theorem eq_test {P : Dt → Prop} {B : Bool → Prop} (h : EvP M te δ P) (hp : ∀ d, P d → ∃ b, d = .bl b ∧ B b) : EvQ M (tTest te) δ B := fun N n σ H s Q q => h N n σ H s _ fun d v H1 p1 e1 j1 r1 => by
  obtain ⟨b, hb, hB⟩ := hp d p1
  subst hb
  exact ⟨b, r1, q b H1 hB e1 j1⟩
theorem eb_test {b : Bool} (h : EvD M te δ (.bl b)) : EvB M (tTest te) δ b := eq_test h fun _ w => ⟨b, w, rfl⟩
theorem eb_B {b : Bool} (h : EvD M te δ (.bl b)) : EvB M (tB te) δ b := fun N n σ H s Q q => h N n σ H s _ fun d v H1 p1 e1 j1 r1 => by
  subst p1
  exact ⟨b, r1, q b H1 rfl e1 j1⟩
theorem eb_and {a b : Bool} (h1 : EvB M t δ a) (h2 : a = true → EvB M u δ b) : EvB M (tAnd t u) δ (a && b) := fun N n σ H s Q q => h1 N n σ H s _ fun a' H1 p1 e1 j1 => by
  subst p1
  cases a' with
  | true => exact h2 rfl N n σ H1 (s.next e1 j1) Q fun b' H2 p2 e2 j2 => q b' H2 p2 (e1.trans e2) j2
  | false => exact q false H1 rfl e1 j1
theorem eb_or {a b : Bool} (h1 : EvB M t δ a) (h2 : a = false → EvB M u δ b) : EvB M (tOr t u) δ (a || b) := fun N n σ H s Q q => h1 N n σ H s _ fun a' H1 p1 e1 j1 => by
  subst p1
  cases a' with
  | true => exact q true H1 rfl e1 j1
  | false => exact h2 rfl N n σ H1 (s.next e1 j1) Q fun b' H2 p2 e2 j2 => q b' H2 p2 (e1.trans e2) j2
theorem eb_not {a : Bool} (h1 : EvB M t δ a) : EvB M (tNot t) δ (!a) := fun N n σ H s Q q => h1 N n σ H s _ fun a' H1 p1 e1 j1 => q (!a') H1 (by rw [p1]) e1 j1
theorem eb_is {a b : Bool} (h : EvB M t δ a) (e : a = b) : EvB M t δ b := e ▸ h
theorem ed_is (h : EvD M te δ d) (w : d = e) : EvD M te δ e := w ▸ h
theorem ed_andV {a b : Bool} (h1 : EvD M ta δ (.bl a)) (h2 : a = true → EvD M tb δ (.bl b)) : EvD M (tAndV ta tb) δ (.bl (a && b)) := fun N n σ H s Q q => h1 N n σ H s _ fun d x H1 p1 e1 j1 r1 => by
  subst p1
  refine ⟨a, r1, ?_⟩
  cases a with
  | true => exact h2 rfl N n σ H1 (s.next e1 j1) Q fun f v H2 p2 e2 j2 r2 => q f v H2 p2 (e1.trans e2) j2 r2
  | false => exact q _ _ H1 rfl e1 j1 rfl
theorem ed_orV {a b : Bool} (h1 : EvD M ta δ (.bl a)) (h2 : a = false → EvD M tb δ (.bl b)) : EvD M (tOrV ta tb) δ (.bl (a || b)) := fun N n σ H s Q q => h1 N n σ H s _ fun d x H1 p1 e1 j1 r1 => by
  subst p1
  refine ⟨a, r1, ?_⟩
  cases a with
  | true => exact q _ _ H1 rfl e1 j1 rfl
  | false => exact h2 rfl N n σ H1 (s.next e1 j1) Q fun f v H2 p2 e2 j2 r2 => q f v H2 p2 (e1.trans e2) j2 r2
theorem ed_notV {a : Bool} (h1 : EvD M ta δ (.bl a)) : EvD M (tNotV ta) δ (.bl (!a)) := fun N n σ H s Q q => h1 N n σ H s _ fun d x H1 p1 e1 j1 r1 => by
  subst p1
  exact ⟨a, r1, q _ _ H1 rfl e1 j1 rfl⟩
theorem ep_if {B : Bool → Prop} (h : EvQ M t δ B) (h1 : B true → EvP M ta δ P) (h2 : B false → EvP M tb δ P) : EvP M (tIf t ta tb) δ P := fun N n σ H s Q q => h N n σ H s _ fun b H1 p1 e1 j1 => by
  cases b with
  | true => exact h1 p1 N n σ H1 (s.next e1 j1) Q fun f v H2 p2 e2 j2 r2 => q f v H2 p2 (e1.trans e2) j2 r2
  | false => exact h2 p1 N n σ H1 (s.next e1 j1) Q fun f v H2 p2 e2 j2 r2 => q f v H2 p2 (e1.trans e2) j2 r2
/-- equality of scalars -/
def scalD : Dt → Dt → Bool
  | .non, .non => true | .non, .int _ => true | .int _, .non => true | .non, .bl _ => true | .bl _, .non => true | .non, .str _ => true | .str _, .non => true
  | .int _, .int _ => true | .bl _, .bl _ => true | .str _, .str _ => true
  | .int _, .str _ => true | .str _, .int _ => true | .bl _, .str _ => true | .str _, .bl _ => true
  | _, _ => false
def eqS : Dt → Dt → Bool
  | .non, .non => true
  | .int i, .int j => decide (i = j)
  | .bl i, .bl j => decide (i = j)
  | .str i, .str j => decide (i = j)
  | _, _ => false
theorem scal_of {N : Mode} {H : Hp} {x y : V} (h : scalD d e = true) (hx : N.R H d x) (hy : N.R H e y) : scal x y = true ∧ decide (x = y) = eqS d e := by
  cases d <;> cases e <;> first
    | exact absurd h Bool.false_ne_true
    | (obtain rfl := (show x = _ from hx); obtain rfl := (show y = _ from hy); refine ⟨rfl, ?_⟩; simp [eqS])
theorem rd_eq (h : scalD d e = true) : R2D M rEq d e (.bl (eqS d e)) := fun N n x y H hj hx hy Q q => by
  obtain ⟨h1, h2⟩ := scal_of h hx hy
  refine ⟨h1, ?_⟩
  rw [h2]
  exact q _ _ H rfl Mode.Le.refl hj rfl
theorem rd_ne (h : scalD d e = true) : R2D M rNe d e (.bl (!eqS d e)) := fun N n x y H hj hx hy Q q => by
  obtain ⟨h1, h2⟩ := scal_of h hx hy
  refine ⟨h1, ?_⟩
  rw [h2]
  exact q _ _ H rfl Mode.Le.refl hj rfl
theorem ed_eq (ha : EvD M ta δ d) (hb : EvD M tb δ e) (h : scalD d e = true) : EvD M (tOp rEq ta tb) δ (.bl (eqS d e)) := ed_op ha hb (rd_eq h)
theorem ed_ne (ha : EvD M ta δ d) (hb : EvD M tb δ e) (h : scalD d e = true) : EvD M (tOp rNe ta tb) δ (.bl (!eqS d e)) := ed_op ha hb (rd_ne h)

/-! ### parts of a slice -/
theorem eo_none : EvO M tNoPart δ none := fun N _ _ H s _ q => q none H rfl Mode.Le.refl s.2
theorem eo_some {i : Int} (h : EvD M te δ (.int i)) : EvO M (tPart te) δ (some i) := fun N n σ H s Q q => h N n σ H s _ fun d v H1 p1 e1 j1 r1 => by
  subst p1
  exact ⟨i, r1, q _ H1 rfl e1 j1⟩
theorem eop_some {P : Dt → Prop} {B : Option Int → Prop} (h : EvP M te δ P) (hp : ∀ d, P d → ∃ i, d = .int i ∧ B (some i)) : EvOp M (tPart te) δ B := fun N n σ H s Q q => h N n σ H s _ fun d v H1 p1 e1 j1 r1 => by
  obtain ⟨i, hi, hB⟩ := hp d p1
  subst hi
  exact ⟨i, r1, q _ H1 hB e1 j1⟩

/-! ### promises of defs that change nothing -/
def spR (K : PySem.W.Frag) (n : Nat) (R : List Dt → Dt → Prop) : Sp := fun vs H Q _ => ∃ S ds, (∀ b ∈ S, H b ≠ none) ∧ ds.length = n ∧ RpA K (cut S H) ds vs ∧ (∃ d, R ds d) ∧ ∀ d v H', R ds d → Ex H H' → Rp K (cut S H') d v → Q v H'
theorem spR_len {K : PySem.W.Frag} {n : Nat} {R : List Dt → Dt → Prop} {vs : List V} {H : Hp} {Q : VK} {E : XK} (h : spR K n R vs H Q E) : vs.length = n := by
  obtain ⟨S, ds, _, hl, hr, _⟩ := h
  rw [hr.length, hl]
theorem ep_call {n : Nat} {R : List Dt → Dt → Prop} {dvs : List V} {des : List Dt} {E : XK} {ta : TA} {P1 : List Dt → Prop} (h : EvAP M ta δ P1) (hd : ∀ (K : PySem.W.Frag) (H : Hp), RpA K H des dvs)
    (hR : ∀ ds, P1 ds → (ds ++ des).length = n ∧ (∃ d, R (ds ++ des) d) ∧ ∀ d, R (ds ++ des) d → P d) : EvP M (tCall (spR M.K n R) dvs E ta) δ P := fun N nn σ H s Q q =>
  h N nn σ H s _ fun ds vs H1 p1 e1 j1 r1 => by
    obtain ⟨hl, hex, hP⟩ := hR ds p1
    refine ⟨N.S, ds ++ des, fun b hb => nn.ok.tr j1 b hb, hl, ?_, hex, fun d v H2 hd2 e2 r2 => ?_⟩
    · rw [← nn.k]
      exact r1.append (hd _ _)
    · refine q d v H2 (hP d hd2) (e1.trans (N.le e2)) (nn.ok.ex e2 j1) ?_
      rw [← nn.k] at r2
      exact r2
theorem ed_call {n : Nat} {R : List Dt → Dt → Prop} {E : XK} {ta : TA} {ds : List Dt} (h : EvAs M ta δ ds) (hl : ds.length = n) (hR : R ds d) (hU : ∀ d', R ds d' → d' = d) : EvD M (tCall (spR M.K n R) [] E ta) δ d :=
  ep_call (des := []) h (fun _ _ => rfl) fun ds' w => by
    subst w
    rw [List.append_nil]
    exact ⟨hl, ⟨d, hR⟩, hU⟩
end
end Mc

/-! Statements, walks and comprehensions over data. -/
namespace Mc
open PySem PySem.Spec PyProof.Rows L2 Evl

def RunS (M : Mode) (t : TS) (D : Ends) (δ : Ds) (B : Hp) : Prop := M.Ok → ∀ σ H, M.St δ σ H → M.Le B H → t D σ H
/-- what is wanted behind: slots by data -/
def To (M : Mode) (B : Hp) (I : Ds → Prop) : L2.St → Hp → Prop := fun σ H => ∃ δ, I δ ∧ M.St δ σ H ∧ M.Le B H
section
variable {M : Mode} {δ : Ds} {B : Hp} {ta tb te tx : TE} {t u : TT} {d e f : Dt} {P : Dt → Prop} {D : Ends} {tu tw tz : TS}
theorem RunS.le {δ' : Ds} (h : RunS M tz D δ B) (w : LeD δ δ') : RunS M tz D δ' B := fun o σ H s l => h o σ H ⟨s.1.weak w, s.2⟩ l
theorem r_seq (h : RunS M tu { D with nx := tz D } δ B) : RunS M (tSeq tu tz) D δ B := h
theorem r_next (h : RunS M tz D δ B) : RunS M tNext { D with nx := tz D } δ B := h
theorem r_end (h : ∀ σ H, M.St δ σ H → M.Le B H → D.nx σ H) : RunS M tNext D δ B := fun _ σ H s l => h σ H s l
theorem p_asg {i : Nat} (h : EvP M te δ P) (k : ∀ d, P d → RunS M tz D (δ.set i (some d)) B) : RunS M (tSeq (tAsg te (gName i)) tz) D δ B := fun o σ H s l =>
  h M o.sub σ H s _ fun d v H1 p1 e1 j1 r1 => k d p1 o _ H1 ((s.next e1 j1).set r1) (l.trans e1)
theorem q_asg {i : Nat} (h : EvD M te δ d) (k : RunS M tz D (δ.set i (some d)) B) : RunS M (tSeq (tAsg te (gName i)) tz) D δ B := p_asg h fun _ w => by rw [w]; exact k
theorem p_asg1 {i : Nat} (h : EvP M te δ P) (k : ∀ d, P d → ∀ σ H, M.St (δ.set i (some d)) σ H → M.Le B H → D.nx σ H) : RunS M (tAsg te (gName i)) D δ B := fun o σ H s l =>
  h M o.sub σ H s _ fun d v H1 p1 e1 j1 r1 => k d p1 _ _ ((s.next e1 j1).set r1) (l.trans e1)
theorem p_drop (h : EvP M te δ P) (k : RunS M tz D δ B) : RunS M (tSeq (tDrop te) tz) D δ B := fun o σ H s l =>
  h M o.sub σ H s _ fun d v H1 p1 e1 j1 r1 => k o _ H1 (s.next e1 j1) (l.trans e1)
theorem p_ret (h : EvP M te δ P) (k : ∀ d v H, P d → M.J H → M.Le B H → M.R H d v → D.rt v H) : RunS M (tRet te) D δ B := fun o σ H s l =>
  h M o.sub σ H s _ fun d v H1 p1 e1 j1 r1 => k d v H1 p1 j1 (l.trans e1) r1
theorem q_ret (h : EvD M te δ d) (k : ∀ v H, M.J H → M.Le B H → M.R H d v → D.rt v H) : RunS M (tRet te) D δ B := p_ret h fun d' v H w j l r => k v H j l (w ▸ r)
theorem p_if {C : Bool → Prop} (h : EvQ M t δ C) (h1 : C true → RunS M tu D δ B) (h2 : C false → RunS M tw D δ B) : RunS M (tIfS t tu tw) D δ B := fun o σ H s l =>
  h M o.sub σ H s _ fun b H1 p1 e1 j1 => by
    cases b with
    | true => exact h1 p1 o σ H1 (s.next e1 j1) (l.trans e1)
    | false => exact h2 p1 o σ H1 (s.next e1 j1) (l.trans e1)
theorem q_if {b : Bool} (h : EvB M t δ b) (h1 : b = true → RunS M tu { D with nx := tz D } δ B) (h2 : b = false → RunS M tw { D with nx := tz D } δ B) : RunS M (tSeq (tIfS t tu tw) tz) D δ B :=
  p_if (D := { D with nx := tz D }) h (fun w => h1 w.symm) (fun w => h2 w.symm)
/-- an if without else -/
theorem q_when {b : Bool} (h : EvB M t δ b) (h1 : b = true → RunS M tu { D with nx := tz D } δ B) (h2 : b = false → RunS M tz D δ B) : RunS M (tSeq (tIfS t tu tNext) tz) D δ B := q_if h h1 h2
theorem p_when {C : Bool → Prop} (h : EvQ M t δ C) (h1 : C true → RunS M tu { D with nx := tz D } δ B) (h2 : C false → RunS M tz D δ B) : RunS M (tSeq (tIfS t tu tNext) tz) D δ B :=
  p_if (D := { D with nx := tz D }) h h1 h2
/-- two names at once -/
theorem p_par {i j : Nat} {ta : TA} {P : List Dt → Prop} (h : EvAP M ta δ P) (k : ∀ ds, P ds → ∃ d e, ds = [d, e] ∧ RunS M tz D ((δ.set i (some d)).set j (some e)) B) : RunS M (tSeq (tPar i j ta) tz) D δ B := fun o σ H s l =>
  h M o.sub σ H s _ fun ds vs H1 p1 e1 j1 r1 => by
    obtain ⟨d, e, w, k⟩ := k ds p1
    subst w
    obtain ⟨v, r, h1, h2, h3⟩ := r1
    obtain ⟨v', r', h1', h2', h3'⟩ := h3
    have e3 : r' = [] := h3'
    rw [e3] at h1'
    rw [h1'] at h1
    exact ⟨v, v', h1, k o _ H1 (((s.next e1 j1).set h2).set h2') (l.trans e1)⟩

/-! ### targets -/
def Chg (js : List Nat) (σ σ' : L2.St) : Prop := σ'.length = σ.length ∧ ∀ k, k ∉ js → σ'[k]? = σ[k]?
def GD (M : Mode) (g : TG) (d : Dt) (δ δ' : Ds) (js : List Nat) : Prop := ∀ N, M.Sub N → ∀ v σ H (Q : L2.St → Hp → Prop), N.St δ σ H → N.R H d v → (∀ σ', N.St δ' σ' H → Chg js σ σ' → Q σ' H) → g v σ H Q
def GDs (M : Mode) (g : TGs) (ds : List Dt) (δ δ' : Ds) (js : List Nat) : Prop := ∀ N, M.Sub N → ∀ vs σ H (Q : L2.St → Hp → Prop), N.St δ σ H → RpA N.K (cut N.S H) ds vs → (∀ σ', N.St δ' σ' H → Chg js σ σ' → Q σ' H) → g vs σ H Q
theorem gd_name {i : Nat} : GD M (gName i) d δ (δ.set i (some d)) [i] := fun N _ v σ H Q s r q => q _ (s.set r) ⟨by simp, fun k hk => List.getElem?_set_ne (fun e => hk (by simp [e]))⟩
theorem gds_nil : GDs M gNil [] δ δ [] := fun N _ vs σ H Q s r q => ⟨r, q σ s ⟨rfl, fun _ _ => rfl⟩⟩
theorem gds_cons {g : TG} {gs : TGs} {ds : List Dt} {δ1 δ2 : Ds} {js ks : List Nat} (h : GD M g d δ δ1 js) (hs : GDs M gs ds δ1 δ2 ks) : GDs M (gCons g gs) (d :: ds) δ δ2 (js ++ ks) := fun N n vs σ H Q s r q => by
  obtain ⟨v, w, h1, h2, h3⟩ := r
  refine ⟨v, w, h1, h N n v σ H _ s h2 fun σ1 s1 c1 => hs N n w σ1 H Q s1 h3 fun σ2 s2 c2 => q σ2 s2 ⟨c2.1.trans c1.1, fun k hk => ?_⟩⟩
  rw [c2.2 k (fun z => hk (List.mem_append_right _ z)), c1.2 k (fun z => hk (List.mem_append_left _ z))]
theorem gd_tup {gs : TGs} {ds : List Dt} {δ1 : Ds} {js : List Nat} {n : Nat} (hs : GDs M gs ds δ δ1 js) (hl : ds.length = n := by rfl) : GD M (gTup M.K n gs) (.tup ds) δ δ1 js := fun N nn v σ H Q s r q => by
  obtain ⟨a, xs, h1, h2, h3⟩ := r
  refine ⟨a, xs, h1, ?_, by rw [h3.length, hl], hs N nn xs σ H Q s h3 q⟩
  rw [← nn.k]
  exact ex_t (cut_le _ _) h2

theorem p_asgG {g : TG} (h : EvP M te δ P) (k : ∀ d, P d → ∃ δ1 js, GD M g d δ δ1 js ∧ RunS M tz D δ1 B) : RunS M (tSeq (tAsg te g) tz) D δ B := fun o σ H s l =>
  h M o.sub σ H s _ fun d v H1 p1 e1 j1 r1 => by
    obtain ⟨δ1, js, G, K⟩ := k d p1
    exact G M o.sub v σ H1 _ (s.next e1 j1) r1 fun σ1 s1 _ => K o σ1 H1 s1 (l.trans e1)
theorem ep_tup {ta : TA} {PA : List Dt → Prop} (h : EvAP M ta δ PA) (hl : ∀ ds, PA ds → ds.length ≤ 100000) : EvP M (tTup ta) δ (fun d => ∃ ds, PA ds ∧ d = .tup ds) := fun N n σ H s Q q =>
  h N n σ H s _ fun ds xs H1 p1 e1 j1 r1 => ⟨sz_of (by rw [r1.length]; exact hl ds p1), fun p hp => by
    obtain ⟨ex, j2, r2⟩ := n.ok.newT j1 hp r1
    exact q _ _ _ ⟨ds, p1, rfl⟩ (e1.trans (N.le ex)) j2 r2⟩
/-! ### walks -/
structure Turns (M : Mode) (J : It) (H1 : Hp) (items : List Dt) : Prop where
  go : ∀ i H', M.Le H1 H' → M.J H' → i < items.length → J.go i H'
  stop : ∀ H', M.Le H1 H' → M.J H' → J.stop items.length H'
  yld : ∀ i H' x H'' d, M.Le H1 H' → M.J H' → J.yld i H' x H'' → items[i]? = some d → M.Le H' H'' ∧ M.J H'' ∧ M.R H'' d x ∧ Ex H' H''
def EvI (M : Mode) (wi : TI) (δ : Ds) (P : List Dt → Prop) : Prop := ∀ N, M.Sub N → ∀ σ H, N.St δ σ H → ∀ R : It → Hp → Prop, (∀ items J H1, P items → N.Le H H1 → N.J H1 → (∀ N', N.Sub N' → cut N'.S H1 = cut N.S H1 → Turns N' J H1 items) → R J H1) → wi σ H R
abbrev EvW (M : Mode) (wi : TI) (δ : Ds) (items : List Dt) : Prop := EvI M wi δ (fun x => x = items)
theorem sub_le {N N' : Mode} {H H' : Hp} (s : N.Sub N') (l : N.Le H H') : N'.Le H H' := cut_exs s.s l

/-- a list that stands in the data -/
theorem turns_list {N : Mode} {H1 : Hp} {a : Addr} {xs : List V} {ds : List Dt} (hx0 : cut N.S H1 a = some (.lst xs)) (hr : RpA N.K (cut N.S H1) ds xs) : Turns N (Itl N.K a) H1 ds where
  go := fun i H' l j hi => by
    have hx : SqL N.K (cut N.S H1) a xs := sq_of hx0
    have h := ex_l (cut_le _ _) (ex_l l hx)
    exact ⟨xs, xs[i]'(by rw [hr.length]; exact hi), h, List.getElem?_eq_getElem _⟩
  stop := fun H' l j => ⟨xs, ex_l (cut_le _ _) (ex_l l (sq_of hx0)), by rw [hr.length]; exact Nat.le_refl _⟩
  yld := fun i H' x H'' d l j y hd => by
    obtain ⟨y1, y2⟩ := y
    subst y1
    obtain ⟨v, hv, hr'⟩ := hr.get' hd
    have e := y2 xs (ex_l (cut_le _ _) (ex_l l (sq_of hx0)))
    rw [hv] at e
    cases e
    exact ⟨Mode.Le.refl, j, hr'.mono l, Ex.refl _⟩
theorem turns_tup {N : Mode} {H1 : Hp} {a : Addr} {xs : List V} {ds : List Dt} (hx : SqT N.K (cut N.S H1) a xs) (hr : RpA N.K (cut N.S H1) ds xs) : Turns N (Itt N.K a) H1 ds where
  go := fun i H' l j hi => by
    have h := ex_t (cut_le _ _) (ex_t l hx)
    exact ⟨xs, xs[i]'(by rw [hr.length]; exact hi), h, List.getElem?_eq_getElem _⟩
  stop := fun H' l j => ⟨xs, ex_t (cut_le _ _) (ex_t l hx), by rw [hr.length]; exact Nat.le_refl _⟩
  yld := fun i H' x H'' d l j y hd => by
    obtain ⟨y1, y2⟩ := y
    subst y1
    obtain ⟨v, hv, hr'⟩ := hr.get' hd
    have e := y2 xs (ex_t (cut_le _ _) (ex_t l hx))
    rw [hv] at e
    cases e
    exact ⟨Mode.Le.refl, j, hr'.mono l, Ex.refl _⟩

variable {ds : List Dt}
theorem ei_list {PI : List Dt → Prop} (h : EvP M te δ P) (hp : ∀ d, P d → ∃ ds, PI ds ∧ d = .lst ds) : EvI M (iList M.K te) δ PI := fun N n σ H s R q => h N n σ H s _ fun d v H1 p1 e1 j1 r1 => by
  obtain ⟨ds, hPI, rfl⟩ := hp d p1
  obtain ⟨a, xs, h1, h2, h3⟩ := r1
  refine ⟨a, h1, ⟨xs, sq_of (cut_le _ _ _ _ h2)⟩, q ds _ H1 hPI e1 j1 fun N' n' ec => ?_⟩
  rw [← n.k, ← n'.k]
  rw [← n'.k, ← ec] at h3
  rw [← ec] at h2
  exact turns_list h2 h3
theorem ew_list (h : EvD M te δ (.lst ds)) : EvW M (iList M.K te) δ ds := ei_list h fun _ w => ⟨ds, rfl, w⟩
theorem ew_tup (h : EvD M te δ (.tup ds)) : EvW M (iTup M.K te) δ ds := fun N n σ H s R q => h N n σ H s _ fun d v H1 p1 e1 j1 r1 => by
  subst p1
  obtain ⟨a, xs, h1, h2, h3⟩ := r1
  refine ⟨a, h1, ⟨xs, ?_⟩, ?_⟩
  · rw [← n.k]
    exact ex_t (cut_le _ _) h2
  · refine q ds _ H1 rfl e1 j1 fun N' n' ec => ?_
    rw [← n.k, ← n'.k]
    rw [← n'.k, ← ec] at h2 h3
    exact turns_tup h2 h3
def rangeD (lo : Int) (n : Nat) : List Dt := (List.range n).map fun (i : Nat) => Dt.int (lo + (i : Int))
theorem rangeD_len (lo : Int) (n : Nat) : (rangeD lo n).length = n := by simp [rangeD]
theorem rangeD_get {lo : Int} {n i : Nat} {d : Dt} (h : (rangeD lo n)[i]? = some d) : d = .int (lo + (i : Int)) ∧ i < n := by
  unfold rangeD at h
  rw [List.getElem?_map] at h
  by_cases hi : i < n
  · rw [List.getElem?_range hi] at h
    exact ⟨(Option.some.inj h).symm, hi⟩
  · rw [List.getElem?_eq_none (by simpa using hi)] at h
    cases h
theorem turns_range {N : Mode} {H1 : Hp} {lo : Int} {n : Nat} : Turns N (Itr lo n) H1 (rangeD lo n) where
  go := fun i H' l j hi => by
    rw [rangeD_len] at hi
    exact hi
  stop := fun H' l j => by
    rw [rangeD_len]
    exact Nat.le_refl _
  yld := fun i H' x H'' d l j y hd => by
    obtain ⟨y1, y2⟩ := y
    subst y1
    obtain ⟨e, _⟩ := rangeD_get hd
    subst e
    exact ⟨Mode.Le.refl, j, y2, Ex.refl _⟩
theorem ew_range1 {ta : TA} {n : Int} (h : EvAs M ta δ [.int n]) (hb : n < 2 ^ 62) (hb' : -(2 ^ 62) ≤ n := by omega) : EvW M (iRng1 ta) δ (rangeD 0 n.toNat) := fun N nn σ H s R q => h N nn σ H s _ fun ds vs H1 p1 e1 j1 r1 => by
  subst p1
  obtain ⟨v, r, h1, h2, h3⟩ := r1
  have e2 : v = .int n := h2
  have e3 : r = [] := h3
  subst e2 e3
  exact ⟨n, h1, hb', hb, q _ _ H1 rfl e1 j1 fun N' _ _ => turns_range⟩
theorem ew_range2 {ta : TA} {m n : Int} (h : EvAs M ta δ [.int m, .int n]) (hb : -(2 ^ 62) ≤ m ∧ m < 2 ^ 62 ∧ -(2 ^ 62) ≤ n ∧ n < 2 ^ 62) : EvW M (iRng2 ta) δ (rangeD m (n - m).toNat) := fun N nn σ H s R q => h N nn σ H s _ fun ds vs H1 p1 e1 j1 r1 => by
  subst p1
  obtain ⟨v, r, h1, h2, v', r', h1', h2', h3⟩ := r1
  have e2 : v = .int m := h2
  have e2' : v' = .int n := h2'
  have e3 : r' = [] := h3
  subst e2 e2' e3
  rw [h1'] at h1
  exact ⟨m, n, h1, hb, q _ _ H1 rfl e1 j1 fun N' _ _ => turns_range⟩

/-! ### for -/
theorem r_for {wi : TI} {g : TG} {I : Nat → Ds → Prop} {P : List Dt → Prop} (hi : EvI M wi δ P) (h0 : I 0 δ)
    (hs : ∀ items, P items → ∀ B', M.Le B B' → ∀ i d δ1, items[i]? = some d → I i δ1 → ∃ δ2 js, GD M g d δ1 δ2 js ∧ RunS M tu { D with nx := To M B' (I (i + 1)), ct := To M B' (I (i + 1)), bk := D.nx } δ2 B')
    (hd : ∀ items, P items → ∀ δ1, I items.length δ1 → ∀ σ H, M.St δ1 σ H → M.Le B H → D.nx σ H) : RunS M (tFor wi g tu) D δ B := fun o σ H s l =>
  hi M o.sub σ H s _ fun items J H1 p1 e1 j1 T => by
    have T := T M o.sub rfl
    refine ⟨fun i m σ' H' => m = items.length - i ∧ i ≤ items.length ∧ ∃ δ1, I i δ1 ∧ M.St δ1 σ' H' ∧ M.Le H1 H', ⟨_, rfl, Nat.zero_le _, δ, h0, s.next e1 j1, Mode.Le.refl⟩, ?_⟩
    rintro i m σ' H' ⟨rfl, hle, δ1, hI, s1, l1⟩
    by_cases hlt : i < items.length
    · refine Or.inr ⟨T.go i H' l1 s1.2 hlt, To M H1 (I (i + 1)), fun σ2 H2 ⟨δ2, hI2, s2, l2⟩ => ⟨items.length - (i + 1), by omega, rfl, hlt, δ2, hI2, s2, l2⟩, fun x H2 y => ?_⟩
      have hd' := List.getElem?_eq_getElem hlt
      obtain ⟨l2, j2, r2, _⟩ := T.yld i H' x H2 _ l1 s1.2 y hd'
      obtain ⟨δ2, js, G, K⟩ := hs items p1 H1 (l.trans e1) i _ δ1 hd' hI
      exact G M o.sub x σ' H2 _ (s1.next l2 j2) r2 fun σ3 s3 _ => K o σ3 H2 s3 (l1.trans l2)
    · have e : i = items.length := by omega
      subst e
      exact Or.inl ⟨T.stop H' l1 s1.2, hd items p1 δ1 hI σ' H' s1 ((l.trans e1).trans l1)⟩
theorem q_for {wi : TI} {g : TG} {I : Nat → Ds → Prop} {items : List Dt} (hi : EvW M wi δ items) (h0 : I 0 δ)
    (hs : ∀ B', M.Le B B' → ∀ i d δ1, items[i]? = some d → I i δ1 → ∃ δ2 js, GD M g d δ1 δ2 js ∧ RunS M tu { D with nx := To M B' (I (i + 1)), ct := To M B' (I (i + 1)), bk := tz D } δ2 B')
    (hd : ∀ δ1, I items.length δ1 → RunS M tz D δ1 B) : RunS M (tSeq (tFor wi g tu) tz) D δ B := fun o =>
  r_for (D := { D with nx := tz D }) hi h0 (fun items' w => by subst w; exact hs) (fun items' w => by subst w; exact fun δ1 h σ H s l => hd δ1 h o σ H s l) o

/-! ### comprehensions -/
theorem wipe_get {σ : L2.St} {k : Nat} : ∀ {vs : List Nat}, (wipe σ vs)[k]? = if k ∈ vs then σ[k]?.map (fun _ => none) else σ[k]? := by
  intro vs
  induction vs with
  | nil => simp [wipe]
  | cons v vs ih =>
    unfold wipe
    by_cases hv : k = v
    · subst hv
      rw [if_pos List.mem_cons_self]
      by_cases hk : k < (wipe σ vs).length
      · rw [List.getElem?_set_self hk]
        rw [wipe_length] at hk
        rw [List.getElem?_eq_getElem hk]
        rfl
      · rw [List.getElem?_eq_none (by rw [List.length_set]; omega)]
        rw [wipe_length] at hk
        rw [List.getElem?_eq_none (by omega)]
        rfl
    · rw [List.getElem?_set_ne (Ne.symm hv), ih]
      by_cases hm : k ∈ vs
      · rw [if_pos hm, if_pos (List.mem_cons_of_mem _ hm)]
      · rw [if_neg hm, if_neg (fun z => (List.mem_cons.mp z).elim hv hm)]
theorem wipe_chg {σ σ' : L2.St} {vs js : List Nat} (c : Chg js (wipe σ vs) σ') (h : ∀ j ∈ js, j ∈ vs) : wipe σ' vs = wipe σ vs := by
  refine List.ext_getElem? fun k => ?_
  rw [wipe_get, wipe_get]
  have hl : σ'.length = σ.length := c.1.trans (wipe_length _ _)
  by_cases hk : k ∈ vs
  · rw [if_pos hk, if_pos hk]
    by_cases hlt : k < σ.length
    · rw [List.getElem?_eq_getElem hlt, List.getElem?_eq_getElem (by omega)]
      rfl
    · rw [List.getElem?_eq_none (by omega), List.getElem?_eq_none (by omega)]
  · rw [if_neg hk, if_neg hk, c.2 k (fun z => hk (h k z)), wipe_get, if_neg hk]
theorem RpS.wipe {K : PySem.W.Frag} {H : Hp} {ds : Ds} {σ : L2.St} (h : RpS K H ds σ) : ∀ vs : List Nat, RpS K H (wipeD ds vs) (L2.wipe σ vs) := by
  intro vs
  induction vs generalizing ds σ with
  | nil => exact h
  | cons v vs ih =>
    have e : L2.wipe σ (v :: vs) = L2.wipe (σ.set v none) vs := by
      refine List.ext_getElem? fun k => ?_
      rw [wipe_get, wipe_get]
      by_cases hv : k = v
      · subst hv
        rw [if_pos List.mem_cons_self]
        by_cases hk : k < σ.length
        · rw [List.getElem?_set_self hk, List.getElem?_eq_getElem hk]
          split <;> rfl
        · rw [List.getElem?_eq_none (by omega), List.getElem?_eq_none (by rw [List.length_set]; omega)]
          split <;> rfl
      · rw [List.getElem?_set_ne (Ne.symm hv)]
        by_cases hm : k ∈ vs
        · rw [if_pos hm, if_pos (List.mem_cons_of_mem _ hm)]
        · rw [if_neg hm, if_neg (fun z => (List.mem_cons.mp z).elim hv hm)]
    rw [e]
    exact ih h.forget
/-- M with a list at D that is being filled -/
def Mode.fill (M : Mode) (D : Addr) (acc : List V) : Mode := ⟨M.K, D :: M.S, fun H => M.J H ∧ H D = some (.lst acc)⟩
theorem Mode.fill_sub {M : Mode} {D : Addr} {acc : List V} (o : M.Ok) (hD : D ∉ M.S) : M.Sub (M.fill D acc) where
  k := rfl
  ok := ⟨fun e j => ⟨o.ex e j.1, e _ _ j.2⟩, fun j b hb => by
    rcases List.mem_cons.mp hb with z | z
    · rw [z, j.2]
      exact fun q => nomatch q
    · exact o.tr j.1 b z, fun {H H' E} j h j' x => by
    have ne : D ≠ E := fun z => by
      rw [← z, j.2] at h
      cases h
    refine ⟨o.mu j.1 h j'.1 x, ?_⟩
    rw [upd_ne ne]
    exact j'.2⟩
  s := fun b hb => List.mem_cons_of_mem _ hb
  j := fun h => h.1
  st := fun h1 h2 e => ⟨h2, by
    have q := e D (.lst _) (by rw [cut_out hD]; exact h1.2)
    exact (cut_some q).1⟩
/-- a comprehension over what is known by a property -/
theorem ep_lc {wi : TI} {g : TG} {tt : TT} {vs : List Nat} {PI : List Dt → Prop} (hi : EvI M wi δ PI)
    (hs : ∀ items, PI items → ∃ (p : Dt → Bool) (F : Dt → Dt), items.length ≤ 50000 ∧ P (.lst ((items.filter p).map F)) ∧ ∀ (i : Nat) d, items[i]? = some d → ∃ δ2 js, GD M g d (wipeD δ vs) δ2 js ∧ (∀ j ∈ js, j ∈ vs) ∧ EvB M tt δ2 (p d) ∧ (p d = true → EvD M te δ2 (F d))) :
    EvP M (tLc wi g tt te vs) δ P := fun N n σ H s Q q =>
  hi N n σ H s _ fun items' J H1 w e1 j1 T Dl hD => by
    obtain ⟨p, F, hz, hP, hs⟩ := hs items' w
    have hDS : Dl ∉ N.S := n.ok.out j1 hD
    refine ⟨fun i m H' => m = items'.length - i ∧ i ≤ items'.length ∧ ∃ acc, RpA N.K (cut (Dl :: N.S) H') (((items'.take i).filter p).map F) acc ∧ N.J H' ∧ H' Dl = some (.lst acc) ∧ Ex (cut (Dl :: N.S) H1) (cut (Dl :: N.S) H'),
      ⟨_, rfl, Nat.zero_le _, [], rfl, n.ok.ex (Ex.new hD) j1, upd_same, by rw [cut_mut List.mem_cons_self]; exact Ex.refl _⟩, ?_⟩
    rintro i m H' ⟨rfl, hle, acc, hr, j', hacc, ex'⟩
    have sb : N.Sub (N.fill Dl acc) := Mode.fill_sub n.ok hDS
    have T' := T (N.fill Dl acc) sb (cut_fresh hD)
    have lacc : acc.length ≤ i := by
      rw [hr.length, List.length_map]
      exact Nat.le_trans (List.length_filter_le _ _) (by rw [List.length_take]; exact Nat.min_le_left _ _)
    by_cases hlt : i < items'.length
    · refine Or.inr ⟨T'.go i H' ex' ⟨j', hacc⟩ hlt, fun H2 => i + 1 ≤ items'.length ∧ ∃ acc, RpA N.K (cut (Dl :: N.S) H2) (((items'.take (i + 1)).filter p).map F) acc ∧ N.J H2 ∧ H2 Dl = some (.lst acc) ∧ Ex (cut (Dl :: N.S) H1) (cut (Dl :: N.S) H2),
        fun H2 h2 => ⟨items'.length - (i + 1), by omega, rfl, h2⟩, fun x H2 y => ?_⟩
      have hd' := List.getElem?_eq_getElem hlt
      obtain ⟨l2, j2, r2, _⟩ := T'.yld i H' x H2 _ ex' ⟨j', hacc⟩ y hd'
      obtain ⟨δ2, js, G, hjs, ht, he⟩ := hs i _ hd'
      have st2 : (N.fill Dl acc).St (wipeD δ vs) (wipe σ vs) H2 := ⟨((s.1.mono e1).mono (show Ex (cut N.S H1) (cut (Dl :: N.S) H2) by rw [← cut_fresh (S := N.S) hD]; exact ex'.trans l2)).wipe vs, j2⟩
      refine G _ (n.trans sb) x (wipe σ vs) H2 _ st2 r2 fun σ3 s3 c3 => ⟨wipe_chg c3 hjs, ?_⟩
      refine ht _ (n.trans sb) σ3 H2 s3 _ fun b H3 hb l3 j3 => ?_
      have tk : items'.take (i + 1) = items'.take i ++ [items'[i]] := by rw [List.take_add_one, hd']; rfl
      have e13 : Ex (cut (Dl :: N.S) H1) (cut (Dl :: N.S) H3) := (ex'.trans l2).trans l3
      cases hp : p items'[i] with
      | false =>
        rw [hp] at hb
        rw [hb]
        show _ ∧ _
        refine ⟨hlt, acc, ?_, j3.1, j3.2, e13⟩
        rw [tk, List.filter_append, List.map_append, List.filter_cons, if_neg (by rw [hp]; exact Bool.false_ne_true)]
        show RpA N.K _ (_ ++ []) acc
        rw [List.append_nil]
        exact hr.mono (l2.trans l3)
      | true =>
        rw [hp] at hb
        rw [hb]
        show te σ3 H3 _
        refine he hp _ (n.trans sb) σ3 H3 (s3.next l3 j3) _ fun f v H4 hf l4 j4 r4 => ⟨acc, j4.2, sz_lt (by omega), hlt, acc ++ [v], ?_, ?_, upd_same, ?_⟩
        · rw [cut_mut List.mem_cons_self, tk, List.filter_append, List.map_append, List.filter_cons, if_pos hp]
          exact (hr.mono ((l2.trans l3).trans l4)).append (RpA.one (hf ▸ r4))
        · exact n.ok.mu j1 hD j4.1 _
        · rw [cut_mut List.mem_cons_self]
          exact e13.trans l4
    · have e : i = items'.length := by omega
      subst e
      refine Or.inl ⟨T'.stop H' ex' ⟨j', hacc⟩, q _ _ H' hP ?_ j' ⟨Dl, acc, rfl, (by rw [cut_out hDS]; exact hacc), ?_⟩⟩
      · refine e1.trans ?_
        show Ex (cut N.S H1) (cut N.S H')
        rw [← cut_fresh (S := N.S) hD]
        exact ex'.trans cut_more
      · rw [List.take_length] at hr
        exact hr.mono cut_more
theorem ed_lc {wi : TI} {g : TG} {tt : TT} {vs : List Nat} {items : List Dt} (p : Dt → Bool) (F : Dt → Dt) (hi : EvW M wi δ items) (hz : items.length ≤ 50000)
    (hs : ∀ (i : Nat) d, items[i]? = some d → ∃ δ2 js, GD M g d (wipeD δ vs) δ2 js ∧ (∀ j ∈ js, j ∈ vs) ∧ EvB M tt δ2 (p d) ∧ (p d = true → EvD M te δ2 (F d))) :
    EvD M (tLc wi g tt te vs) δ (.lst ((items.filter p).map F)) := ep_lc hi fun items' w => by
  subst w
  exact ⟨p, F, hz, rfl, hs⟩
end
end Mc

/-! Sets of texts: made by a comprehension or of a list, sorted. -/
namespace Mc
open PySem PySem.Spec PyProof.Rows L2

def txtOf (e : Int × Value) : Str := match e.2 with | .str x _ => x | _ => Str.empty
def TxtE (w : World) (e : Int × Value) : Prop := ∃ x tk, e = (hashStr w x, Value.str x tk)
theorem txtOf_eq {w : World} {e : Int × Value} (h : TxtE w e) : ∃ tk, e = (hashStr w (txtOf e), Value.str (txtOf e) tk) := by
  obtain ⟨x, tk, rfl⟩ := h
  exact ⟨tk, rfl⟩
/-- at a there is a set of just the texts xs -/
structure TSet (w : World) (h : Heap) (a : Addr) (xs : List Str) : Prop where
  ex : ∃ o es ep t, h.get? a = some o ∧ o.ExactSet ∧ o.data = .set es ep t ∧ (∀ e ∈ es.toList, TxtE w e) ∧ (es.toList.map txtOf).Perm xs ∧ xs.Nodup ∧ es.size < scanBound ∧ t.fits es.size = true ∧
    Ris t.place.toList ∧ (w.params.followText "set-order" = true ∨ t.led = true)
section
variable {P : Program} {w : World} {h h' : Heap} {a : Addr} {xs : List Str}
theorem TSet.at (R : TSet w h a xs) (k : ∀ o, h.get? a = some o → h'.get? a = some o) : TSet w h' a xs := by
  obtain ⟨o, es, ep, t, ho, r⟩ := R.ex
  exact ⟨o, es, ep, t, k o ho, r⟩
theorem txt_elems {l : List (Int × Value)} (g : ∀ e ∈ l, TxtE w e) : ElemsOf (PySem.strKind P w) l := fun e he => by
  obtain ⟨x, tk, rfl⟩ := g e he
  exact ⟨⟨x, strKind_is P w x tk, rfl⟩, rfl⟩
theorem txt_is {e : Int × Value} (g : TxtE w e) (x : Str) : (PySem.strKind P w).is x e.2 = true ↔ txtOf e = x := by
  obtain ⟨y, tk, rfl⟩ := g
  constructor
  · intro q
    obtain ⟨t', q'⟩ := Value.isStrOf_shape (show Value.isStrOf x (Value.str y tk) = true from q)
    injection q' with q1 _
  · intro q
    have q' : y = x := q
    rw [← q']
    exact strKind_is P w y tk
end
section
variable {P : Program} {w : World} {A : Around} {E : Value → Shared → Prop} {s : Shared} {a : Addr} {xs : List Str}
theorem put_at {h : Heap} {o : Obj} {es es2 : Array (Int × Value)} {ep : Nat} {t t2 : SetTable} (ho : h.get? a = some o) (hd : o.data = .set es ep t) :
    (h.update a (Obj.putSet es2 t2)).get? a = some { o with data := .set es2 (ep + 1) t2 } := by
  have z := Heap.get?_update_self (Obj.putSet es2 t2) ho (by rw [putSet_of es2 t2 hd]; rfl)
  rwa [putSet_of es2 t2 hd] at z
theorem tset_store {g : Bool → Sem Unit} (hg : ∀ (b : Bool) (s1 : Shared) (Z : Unit → Shared → Prop), Z () s1 → wpAny (model P w) A (g b) Z E s1)
    {o : Obj} {es : Array (Int × Value)} {ep : Nat} {t : SetTable} (ho : s.heap.get? a = some o) (hx : o.ExactSet) (hd : o.data = .set es ep t)
    {es1 : Array (Int × Value)} {t2 : SetTable} {ys : List Str} (g1 : ∀ e ∈ es1.toList, TxtE w e) (p1 : (es1.toList.map txtOf).Perm ys) (n1 : ys.Nodup) (b1 : es1.size < scanBound) (f2 : t2.fits es1.size = true) (r2 : Ris t2.place.toList)
    (l2 : w.params.followText "set-order" = true ∨ t2.led = true) {dm : Bool} {Z : Option Bool → Shared → Prop} (hZ : ∀ h', Heap.SameBut a s.heap h' → TSet w h' a ys → Z (some true) { s with heap := h' }) :
    wpAny (model P w) A (do
        storeSet a es1 t2
        if (!dm && t2.tooFull) = true then do
            g (relayAll t2 es1 (SetTable.grown es1.size)).2.2
            storeSet a (relayAll t2 es1 (SetTable.grown es1.size)).1 (relayAll t2 es1 (SetTable.grown es1.size)).2.1
            pure (some true)
          else pure (some true)) Z E s := by
  refine wpAny_bind (wpAny_storeSet_of ho hd ?_ (fits_of_scanBound b1))
  have ho1 := put_at (es2 := es1) (t2 := t2) ho hd
  have same1 := Heap.SameBut.update s.heap a (Obj.putSet es1 t2)
  split
  · have pm := relayAll_perm t2 es1 (SetTable.grown es1.size)
    have q1 := relayAll_fits t2 es1 (SetTable.grown es1.size)
    have q2 := relayAll_ris t2 es1 (SetTable.grown es1.size)
    have q3 := relayAll_led t2 es1 (SetTable.grown es1.size)
    generalize relayAll t2 es1 (SetTable.grown es1.size) = L at pm q1 q2 q3 ⊢
    obtain ⟨es3, t3, gv⟩ := L
    dsimp only at pm q1 q2 q3 ⊢
    have sz : es3.size = es1.size := by rw [← Array.length_toList, pm.length_eq, Array.length_toList]
    have b3 : es3.size < scanBound := by rw [sz]; exact b1
    refine wpAny_bind (hg _ _ _ ?_)
    refine wpAny_bind (wpAny_storeSet_of ho1 rfl ?_ (fits_of_scanBound b3))
    have ho2 := put_at (es2 := es3) (t2 := t3) ho1 rfl
    refine wpAny_pure (hZ _ (same1.trans (Heap.SameBut.update _ a _)) ⟨_, es3, _, t3, ho2, hx, rfl, fun e he => g1 e (pm.mem_iff.mp he), (pm.map txtOf).trans p1, n1, b3, q1, q2, ?_⟩)
    exact l2.imp id fun z => by rw [q3]; exact z
  · exact wpAny_pure (hZ _ same1 ⟨_, es1, _, t2, ho1, hx, rfl, g1, p1, n1, b1, f2, r2, l2⟩)
theorem tset_add_hashed {x : Str} {tk : Tok} {Z : Bool → Shared → Prop} (R : TSet w s.heap a xs) (room : xs.length + 1 < scanBound)
    (hZ : ∀ b h', Heap.SameBut a s.heap h' → TSet w h' a (if x ∈ xs then xs else x :: xs) → Z b { s with heap := h' }) :
    wpAny (model P w) A (setAddHashed a (.str x tk) ((PySem.strKind P w).hash x)) Z E s := by
  obtain ⟨o, es, ep, t, ho, hx, hd, g, pm0, nd, hb, hf, hr, hl⟩ := R.ex
  have isx : (PySem.strKind P w).is x (.str x tk) = true := strKind_is P w x tk
  have scn : (Value.str x tk).scannable = true := rfl
  have els : ElemsOf (PySem.strKind P w) es.toList := txt_elems g
  have lx : es.size = xs.length := by rw [← Array.length_toList, ← List.length_map (f := txtOf), pm0.length_eq]
  unfold setAddHashed setAddHashedIn
  refine wpAny_holding (wpAny_bind (wpAny_setState_of ho hd hf ?_))
  dsimp only
  rw [byScan_of scn hb els]
  simp only [↓reduceIte]
  unfold setAddByScan
  refine wpAny_bind ?_
  refine wpAny_bind (wpAny_rule ?_)
  refine wpAny_bind (wpAny_setScan_of isx ho hd hf els ?_)
  cases fi : List.findIdx? (fun e => (PySem.strKind P w).is x e.2) es.toList with
  | some j =>
    dsimp only
    obtain ⟨hj, pj, _⟩ := List.findIdx?_eq_some_iff_getElem.mp fi
    have hm : x ∈ xs := by
      refine pm0.mem_iff.mp (List.mem_map.mpr ⟨es.toList[j], List.getElem_mem hj, ?_⟩)
      exact (txt_is (P := P) (g _ (List.getElem_mem hj)) x).mp pj
    refine wpAny_pure (wpAny_pure ?_)
    have q := fun b => hZ b s.heap (Heap.SameBut.refl a s.heap)
    rw [if_pos hm] at q
    exact q _ R
  | none =>
    dsimp only
    have hm : x ∉ xs := fun z => by
      obtain ⟨e, he, q⟩ := List.mem_map.mp (pm0.mem_iff.mpr z)
      have c := List.findIdx?_eq_none_iff.mp fi e he
      rw [(txt_is (P := P) (g e he) x).mpr q] at c
      cases c
    have gv : ∀ (b : Bool) {s1 : Shared} {Y : Unit → Shared → Prop}, Y () s1 → wpAny (model P w) A (match b with | true => rule "set.scan.the-table-gave-way" | false => pure ()) Y E s1 :=
      fun b s1 Y q => by cases b <;> first | exact wpAny_pure q | exact wpAny_rule q
    have pm := layNew_perm t es ((PySem.strKind P w).hash x) (.str x tk)
    have q1 := layNew_fits t es ((PySem.strKind P w).hash x) (.str x tk)
    have q2 := layNew_ris t es ((PySem.strKind P w).hash x) (.str x tk) hr
    have q3 := layNew_led t es ((PySem.strKind P w).hash x) (.str x tk)
    generalize layNew t es ((PySem.strKind P w).hash x) (.str x tk) = L at pm q1 q2 q3 ⊢
    obtain ⟨es1, t1, dm, gave⟩ := L
    dsimp only at pm q1 q2 q3 ⊢
    rw [Array.toList_push] at pm
    have pc : es1.toList.Perm (((PySem.strKind P w).hash x, Value.str x tk) :: es.toList) := pm.trans (List.perm_append_singleton _ _)
    have pk : (es1.toList.map txtOf).Perm (x :: xs) := (pc.map txtOf).trans (List.Perm.cons x pm0)
    have g1 : ∀ e ∈ es1.toList, TxtE w e := fun e he => by
      rcases List.mem_cons.mp (pc.mem_iff.mp he) with z | z
      · rw [z]; exact ⟨x, tk, rfl⟩
      · exact g e z
    have n1 : (x :: xs).Nodup := List.nodup_cons.mpr ⟨hm, nd⟩
    have sz : es1.size = xs.length + 1 := by rw [← Array.length_toList, pc.length_eq, List.length_cons, Array.length_toList, lx]
    have b1 : es1.size < scanBound := by rw [sz]; exact room
    have l1 : w.params.followText "set-order" = true ∨ t1.led = true := hl.imp id fun z => by rw [q3]; exact z
    have fin : ∀ b h', Heap.SameBut a s.heap h' → TSet w h' a (x :: xs) → Z b { s with heap := h' } := fun b h' sb r => by
      have q := hZ b h' sb
      rw [if_neg hm] at q
      exact q r
    refine wpAny_bind (gv _ ?_)
    split
    · refine wpAny_bind ?_
      rw [hashByValue_scannable 8 scn]
      refine wpAny_pure ?_
      refine tset_store ?_ ho hx hd g1 pk n1 b1 ?_ ?_ ?_ ?_
      · intro b s1 Y q; cases b <;> first | exact wpAny_pure q | exact wpAny_rule q
      · first | (split <;> first | exact q1 | exact SetTable.fits_plain_off q1) | exact q1
      · first | (split <;> exact q2) | exact q2
      · first | (split <;> exact l1) | exact l1
      · intro h' sb r; dsimp only; exact wpAny_pure (fin _ h' sb r)
    · refine wpAny_bind (wpAny_pure ?_)
      simp only [↓reduceIte]
      refine tset_store ?_ ho hx hd g1 pk n1 b1 q1 q2 l1 ?_
      · intro b s1 Y q; cases b <;> first | exact wpAny_pure q | exact wpAny_rule q
      · intro h' sb r; dsimp only; exact wpAny_pure (fin _ h' sb r)
theorem TSet.typeIs {s : Shared} (R : TSet w s.heap a xs) : s.TypeIs (.ref a) "set" := by
  obtain ⟨o, es, ep, t, ho, hx, _⟩ := R.ex
  exact ⟨o, ho, hx.1⟩
theorem tset_add {x : Str} {tk : Tok} {Z : Value → Shared → Prop} (R : TSet w s.heap a xs) (room : xs.length + 1 < scanBound)
    (hZ : ∀ h', Heap.SameBut a s.heap h' → TSet w h' a (if x ∈ xs then xs else x :: xs) → Z .none { s with heap := h', toks := s.toks + 1 }) :
    wpAny (model P w) A (call (.builtin "set.add") [.ref a, .str x tk]) Z E s := by
  refine wpAny_call_entry F.slot_set_add R.typeIs F.entry_set_add ?_ (F.args_set_add_2 _ _)
  unfold Builtin.«set.add» Builtin.Frozenset.oneOther
  simp only [List.isEmpty_nil, bind_assoc]
  unfold Builtin.Frozenset.addrOf setAdd
  refine wpAny_bind (wpAny_pure ?_)
  try dsimp only
  refine wpAny_bind (wpAny_pure ?_)
  try dsimp only
  refine wpAny_bind ?_
  refine wpAny_holding ?_
  refine wpAny_bind ((PySem.strKind P w).pyHash (strKind_is P w x tk) ?_)
  refine tset_add_hashed (s := { s with toks := s.toks + 1 }) R room fun b h' sb r => ?_
  show wpAny _ _ (ret Value.none) _ _ _
  exact wpAny_pure ⟨_, rfl, hZ h' sb r⟩
theorem tset_fresh {h : Heap} (w : World) : TSet w (h.push { cls := .type "set", dict := none, data := .set #[] 0 (.fresh 0 0 (!w.params.followText "set-order")) }) h.objs.size [] := by
  refine ⟨_, #[], 0, _, Heap.get?_push_size _ rfl, ⟨rfl, rfl, rfl⟩, rfl, fun e he => by simp at he, List.Perm.refl _, List.nodup_nil, by decide, rfl, List.Pairwise.nil, ?_⟩
  show _ ∨ (!w.params.followText "set-order") = true
  cases w.params.followText "set-order" with
  | false => exact Or.inr rfl
  | true => exact Or.inl rfl

/-! ### sorted -/
theorem strs_of : ∀ (l : List Value), (∀ v ∈ l, ∃ x tk, v = Value.str x tk) → ∃ ss, StrsAre l ss
  | [], _ => ⟨[], .nil⟩
  | v :: l, h => by
    obtain ⟨x, tk, rfl⟩ := h v List.mem_cons_self
    obtain ⟨ss, q⟩ := strs_of l fun u hu => h u (List.mem_cons_of_mem _ hu)
    exact ⟨x :: ss, .cons x tk q⟩
def strOfV : Value → Str
  | .str x _ => x
  | _ => Str.empty
theorem strs_eq : ∀ {l : List Value} {ss : List Str}, StrsAre l ss → ss = l.map strOfV
  | _, _, .nil => rfl
  | _, _, .cons y t q => by rw [strs_eq q]; rfl
theorem sorted_tset {Z : Value → Shared → Prop} (R : TSet w s.heap a xs) (hh : A.handled = none)
    (hZ : ∀ s' p (out : Array Value) (c : Nat) (ys : List Str), (∀ b o, s.heap.get? b = some o → s'.heap.get? b = some o) → s'.gens = s.gens → s'.os = s.os → s.heap.objs.size ≤ p →
      s'.heap.get? p = some (seqObj "list" out c) → StrsAre out.toList ys → ys.Perm xs → sortedS ys = true → Z (.ref p) s') :
    wpAny (model P w) A (call (.builtin "sorted") [.ref a]) Z E s := by
  obtain ⟨o, es, ep, t, ho, hx, hd, g, pm0, nd, hb, hf, hr, hl⟩ := R.ex
  have lx : es.size = xs.length := by rw [← Array.length_toList, ← List.length_map (f := txtOf), pm0.length_eq]
  refine Calls.call_function_entry kind_sorted plain_sorted entry_sorted (args_sorted1 _) ?_
  unfold Builtin.«sorted»
  refine wpAny_bind (m := checkCount "sorted" 1 1 _) (wpAny_pure ?_)
  refine wpAny_bind (collect_set (A := A.in1) hh ⟨o, ho, hx.1, hd⟩ hf hb hr hl fun s1 vs k1 hz g1 o1 pm => ?_)
  have lv : vs.length = es.size := by rw [pm.length_eq, List.length_map, Array.length_toList]
  have lvs : vs.length ≤ sizeLine := by rw [lv]; exact fits_of_scanBound hb
  obtain ⟨ss, hS⟩ := strs_of vs fun v hv => by
    obtain ⟨e, he, q⟩ := List.mem_map.mp (pm.mem_iff.mp hv)
    obtain ⟨x, tk, h1⟩ := g e he
    exact ⟨x, tk, by rw [← q, h1]⟩
  have pk : ss.Perm xs := by
    rw [strs_eq hS]
    have q := pm.map strOfV
    rw [List.map_map] at q
    refine q.trans (List.Perm.trans (List.Perm.of_eq ?_) pm0)
    refine List.map_congr_left fun e _ => ?_
    show strOfV e.2 = txtOf e
    unfold strOfV txtOf
    cases e.2 <;> rfl
  refine wpAny_bind (wpAny_newList ?_ lvs)
  have hoL : (s1.heap.push (seqObj "list" vs.toArray 0)).get? s1.heap.objs.size = some (seqObj "list" vs.toArray 0) := Heap.get?_push_size _ rfl
  refine wpAny_bind (wpAny_holding (wpAny_call_entry slot_list_sort ⟨_, hoL, rfl⟩ entry_list_sort
    (list_sort_treeKAny strKind_oneLt hoL hS.keysOf (fun v1 v2 rest e => keyKind_strs (by rw [← e]; exact hS)) lvs fun st' a1 a2 => ⟨_, rfl, ?_⟩) (args_list_sort _)))
  obtain ⟨ys, h1, h2, h3⟩ := sorted_out_str hS a1 a2
  obtain ⟨c, hc⟩ := sortedHeap_at (vs := vs) (out := (arrOf st').map (·.2)) hoL
  refine wpAny_pure ⟨_, rfl, hZ _ s1.heap.objs.size _ c ys (fun b u e => ?_) g1 o1 hz hc h1 (h2.trans pk) h3⟩
  have q := k1 b u e
  have hlt := Heap.lt_size q
  show (sortedHeap (s1.heap.push (seqObj "list" vs.toArray 0)) s1.heap.objs.size vs _).get? b = some u
  rw [sortedHeap_old (Nat.ne_of_lt hlt) (by rw [size_push']; exact Nat.lt_succ_of_lt hlt)]
  exact Heap.get?_push_of_some _ q
end

/-! ### over the layer -/
def TSO (w : World) (a : Addr) (xs : List Str) : HO := .ext fun h => TSet w h a xs
theorem tso_new {w : World} {P : Program} {H : Hp} {h : Heap} {a : Addr} {xs : List Str} (R : TSet w h a xs) : ObjOk P w H h a (TSO w a xs) := by
  obtain ⟨o, _, _, _, ho, _⟩ := R.ex
  exact ⟨R, ⟨o, ho⟩, fun h1 h2 p k => TSet.at p k⟩
section
variable {X : Cx}
theorem tso_get {pins : List (Addr × Obj)} {σ : L2.St} {H : Hp} {s : Shared} {a : Addr} {xs : List Str} (I : Inv X pins σ H s) (ha : H a = some (TSO X.w a xs)) : TSet X.w s.heap a xs := (I.hok a _ ha).1
theorem tso_add {pins : List (Addr × Obj)} {σ : L2.St} {H : Hp} {s : Shared} {E : Value → Shared → Prop} {D : Addr} {xs : List Str} {x : Str} {tk : Tok} {Q : Value → Shared → Prop} (I : Inv X pins σ H s) (hD : H D = some (TSO X.w D xs)) (room : xs.length + 1 < scanBound)
    (h : ∀ s', Inv X pins σ (upd H D (TSO X.w D (if x ∈ xs then xs else x :: xs))) s' → Q .none s') : wpAny (model X.prog X.w) X.A (call (.builtin "set.add") [.ref D, .str x tk]) Q E s := by
  refine tset_add (tso_get I hD) room fun h' sb new => ?_
  obtain ⟨o, _, _, _, ho, _⟩ := new.ex
  exact h _ (I.write (e := D) (t' := s.toks + 1) (by rw [hD]; trivial) (.inl rfl) (fun b u hb hu => (sb.2 b hb).trans hu) ⟨o, ho⟩ (tso_new new))
/-- sorted(a set of texts) -/
def rSortedT (w : World) : List V → Hp → VK → Prop := fun vs H Q => ∃ (a : Addr) (xs : List Str), vs = [V.ref a] ∧ H a = some (TSO w a xs) ∧ xs.length ≤ 100000 ∧
  ∀ (ys : List Str) (p : Addr), ys.Perm xs → sortedS ys = true → H p = none → Q (.ref p) (upd H p (.lst (ys.map V.str)))
theorem cr_sortedT (hc : X.calm = true) : CallR X (.builtin "sorted") (rSortedT X.w) := by
  intro pins s σ H vs us Q I r h
  obtain ⟨a, xs, rfl, ha, hlen, q⟩ := h
  rw [Vals.ref1 r]
  refine sorted_tset (tso_get I ha) (I.ok.hd hc) fun s' p out c ys k g o hp hg hi hs hm => ?_
  have hn : H p = none := I.hok.fresh hp
  have hl : (ys.map V.str).length ≤ sizeLine := Evl.sz_of (by rw [List.length_map, hs.length_eq]; exact hlen)
  have J : Inv X pins σ (upd H p (.lst (ys.map V.str))) { s with heap := s'.heap, gens := s'.gens, drawn := s'.drawn, toks := s'.toks } :=
    I.call (ch := []) (Un.laid k hp hn) (I.hok.laid k hp ⟨hl, out.toList, c, vals_of_strs hi, hg⟩) (by rw [g]; exact I.bare) (fun _ z => nomatch z)
  have e : s' = { s with heap := s'.heap, gens := s'.gens, drawn := s'.drawn, toks := s'.toks } := by
    cases s'
    cases s
    cases o
    rfl
  rw [e]
  exact ⟨.ref p, _, J, rfl, q ys p hs hm hn⟩

/-! ### {text for target in iter} -/
def tScT (w : World) (wi : TI) (g : TG) (tt : TT) (te : TE) (vs : List Nat) : TE := fun σ H Q => wi σ H fun J H1 => ∀ D, H1 D = none → ∃ W : Nat → Nat → Hp → Prop, (∃ m, W 0 m (upd H1 D (TSO w D []))) ∧ ∀ i m H, W i m H →
  (J.stop i H ∧ Q (.ref D) H) ∨ (J.go i H ∧ ∃ Nx : Hp → Prop, (∀ H', Nx H' → ∃ m', m' < m ∧ W (i + 1) m' H') ∧ ∀ x H', J.yld i H x H' → g x (wipe σ vs) H' fun σ2 H2 => wipe σ2 vs = wipe σ vs ∧ tt σ2 H2 fun b H3 =>
    if b = true then te σ2 H3 fun y H4 => ∃ (c : Str) (xs : List Str), y = .str c ∧ H4 D = some (TSO w D xs) ∧ xs.length + 1 < scanBound ∧ Nx (upd H4 D (TSO w D (if c ∈ xs then xs else c :: xs))) else Nx H3)
section
variable {pins : List (Addr × Obj)} {s : Shared} {σ : L2.St} {H : Hp} {Q : VK} {elt tg iter : Expr} {ifs : List Expr} {scope : Scope} {own : List (PySem.Str × Nat)} {pos pos' : Pos} {wi : TI} {g : TG} {tt : TT} {te : TE}
theorem scT_core {use : Option (Value → Sem Unit)} {Qf : Value → Shared → Prop} (hc : X.calm = true) (hN : X.N.Nodup) (I : Inv X pins σ H s) (hi : PI X tg iter wi) (ok : BlkOk X.N X.env.scope scope own)
    (hg : ∀ (s : Shared) (H : Hp) (C : Addr) (cl : List (PySem.Str × Addr)) (fp : List Addr), PG (X.blk s H scope (compEnvC scope cl C X.env) fp) tg g)
    (ht : ∀ (s : Shared) (H : Hp) (C : Addr) (cl : List (PySem.Str × Addr)) (fp : List Addr), PTs (X.blk s H scope (compEnvC scope cl C X.env) fp) ifs tt)
    (he : ∀ (s : Shared) (H : Hp) (C : Addr) (cl : List (PySem.Str × Addr)) (fp : List Addr), PE (X.blk s H scope (compEnvC scope cl C X.env) fp) elt te)
    (hs : ∀ x, foldedSetIterable iter X.env x = pure x) (h : tScT X.w wi g tt te (own.map (·.2)) σ H Q)
    (hE : ∀ D C s1 m H1, Inv X pins σ H1 s1 → Q (.ref D) H1 → s1.heap.Ns C m → FpOk X pins H1 C → compPost (model X.prog X.w) X.A X.xe use Qf (.ref D) C (.ok .next) s1) :
    wpAny (model X.prog X.w) X.A (comprehension (.SetComp elt [⟨tg, iter, ifs, 0⟩] scope pos) scope X.env pos' (newSet (.type "set")) false (eval iter X.env) use) Qf X.xe s := by
  have free1 : ∀ y ∈ scope.names, y.2 = .free → ∃ c, X.env.cells.lookup y.1 = some c := fun y hy e =>
    (ok.free y hy e).elim (fun k => I.ok.has _ (.inl k)) (fun k => I.ok.has _ (.inr k))
  refine wpAny_comprehension_free (use := use) rfl hs (closure_ok free1) ok.kind (fun y hy e => by rw [ok.uniq y hy, e]) (thn (hi.run pins s σ H _ I h) fun xv s1 hx => thn hx fun itv s2 h2 => ?_)
  obtain ⟨it, fp, tn, J, H2, ei, I2, T, st2, f2, q⟩ := h2
  subst ei
  refine PpSet.newSet_ok (newEnv_comp ?_)
  generalize hD : s2.heap.objs.size = D
  have nD : H2 D = none := I2.hok.fresh (Nat.le_of_eq hD)
  obtain ⟨W, ⟨m0, w0⟩, turn⟩ := q D nD
  generalize e3 : ({ s2 with heap := s2.heap.push { cls := .type "set", dict := none, data := .set #[] 0 (.fresh 0 0 (!X.w.params.followText "set-order")) } } : Shared) = s3
  have I3 : Inv X pins σ (upd H2 D (TSO X.w D [])) s3 := by
    rw [← e3]
    refine I2.laid (t' := s2.toks) (fun b o e => Heap.get?_push_of_some _ e) (Nat.le_of_eq hD) ?_
    rw [← hD]
    exact tso_new (tset_fresh X.w)
  have p3 : s3.heap = s2.heap.push { cls := .type "set", dict := none, data := .set #[] 0 (.fresh 0 0 (!X.w.params.followText "set-order")) } := by rw [← e3]
  have lt2 : ∀ b ∈ fp, b < s2.heap.objs.size := fun b hb => let ⟨_, e, _⟩ := T.obj _ _ st2 b hb; Heap.lt_size e
  have f3 : ∀ b ∈ fp, FpOk X pins (upd H2 D (TSO X.w D [])) b ∧ b < s3.heap.objs.size := fun b hb =>
    ⟨⟨by rw [upd_ne (by rw [← hD]; exact Nat.ne_of_lt (lt2 b hb))]; exact (f2 b hb).1, (f2 b hb).2⟩, by rw [p3, Heap.size_push]; exact Nat.lt_succ_of_lt (lt2 b hb)⟩
  have st3 : tn 0 s3.heap := T.keep _ _ _ st2 fun b _ o e => by rw [p3]; exact Heap.get?_push_of_some _ e
  have I4 := block_start I3 ok hN f3
  have pg := hg s3 (upd H2 D (TSO X.w D [])) s3.heap.objs.size (cellsFrom (s3.heap.objs.size + 1) scope.names (cloFrom X.env.cells scope.names [])) fp
  have pt := ht s3 (upd H2 D (TSO X.w D [])) s3.heap.objs.size (cellsFrom (s3.heap.objs.size + 1) scope.names (cloFrom X.env.cells scope.names [])) fp
  have pe := he s3 (upd H2 D (TSO X.w D [])) s3.heap.objs.size (cellsFrom (s3.heap.objs.size + 1) scope.names (cloFrom X.env.cells scope.names [])) fp
  show codeAny _ _ (.compStart (.SetComp elt [⟨tg, iter, ifs, 0⟩] scope pos) 0 (.ref it) (.ref D) (compEnvC scope (cellsFrom (s3.heap.objs.size + 1) scope.names (cloFrom X.env.cells scope.names [])) s3.heap.objs.size X.env))
    (compPost (model X.prog X.w) X.A X.xe use Qf (.ref D) s3.heap.objs.size) { s3 with heap := pushCells (s3.heap.push { cls := .type "dict", data := .dict #[] }) scope.names }
  have n3 : ∀ b ∈ fp, (upd H2 D (TSO X.w D [])) b = none := fun b hb => (f3 b hb).1.1
  generalize hce : compEnvC scope (cellsFrom (s3.heap.objs.size + 1) scope.names (cloFrom X.env.cells scope.names [])) s3.heap.objs.size X.env = ce at I4 pg pt pe ⊢
  have cL : ce.locals = s3.heap.objs.size := by
    subst hce
    rfl
  generalize hH3 : upd H2 D (TSO X.w D []) = H3 at I3 I4 pg pt pe w0 n3 f3
  generalize e4 : ({ s3 with heap := pushCells (s3.heap.push { cls := .type "dict", data := .dict #[] }) scope.names } : Shared) = s4 at I4 ⊢
  have st4 : tn 0 s4.heap := T.keep _ _ _ st3 fun b _ o e => by rw [← e4]; exact pushCells_keeps _ _ _ _ (Heap.get?_push_of_some _ e)
  have stat : ∀ {σ1 : L2.St} {H1 : Hp} {s1 : Shared}, Inv (X.blk s3 H3 scope ce fp) [] σ1 H1 s1 → (∀ b ∈ fp, H1 b = none) → ∀ b ∈ fp, FpOk (X.blk s3 H3 scope ce fp) [] H1 b := fun I1 hn b hb =>
    ⟨hn b hb, (I1.ok.exf b hb).1, I1.ok.exfs b hb, .inl hb, fun x c e => (I1.ok.exf b hb).2 x c e, fun p hp => absurd (show p ∈ ([] : List (Addr × Obj)) ++ [] from hp) (by simp)⟩
  have loop : codeAny (model X.prog X.w) X.A (.compLoop (.SetComp elt [⟨tg, iter, ifs, 0⟩] scope pos) 0 (.ref it) (.ref D) ce) (compPost (model X.prog X.w) X.A X.xe use Qf (.ref D) s3.heap.objs.size) s4 := by
    refine PpSet.compLoopS_any (fun n s1 => ∃ i H1, Inv (X.blk s3 H3 scope ce fp) [] (wipe σ (own.map (·.2))) H1 s1 ∧ tn i s1.heap ∧ (∀ b ∈ fp, H1 b = none) ∧ W i n H1) ?_ m0 ⟨0, H3, I4, st4, n3, w0⟩
    rintro n s5 ⟨i, H5, I5, st5, n5, w5⟩
    rcases turn i n H5 w5 with ⟨stop, qq⟩ | ⟨go, Nx, hNx, step⟩
    · refine thnF (T.done (X.blk s3 H3 scope ce fp) rfl rfl rfl hc i [] s5 _ H5 (fun _ _ => False) I5 (stat I5 n5) st5 stop) fun r s6 ⟨hr, I6⟩ => ?_
      subst hr
      have I7 : Inv X pins σ H5 s6 := I3.call' (ch := fp) I6.os I6.base I6.hok I6.bare fun b hb => ⟨(f3 b hb).1.2.2.2.1, (f3 b hb).1.2.1, (f3 b hb).1.2.2.2.2.1, (f3 b hb).1.2.2.2.2.2⟩
      have nC : H5 ce.locals = none := I6.free
      obtain ⟨m, hn, _⟩ := I6.loc
      have hn1 : s6.heap.Ns ce.locals m := hn
      rw [cL] at hn1 nC
      exact hE D s3.heap.objs.size s6 m H5 I7 qq hn1 (I3.fpOk (Nat.le_refl _) nC)
    · refine thnF (T.item (X.blk s3 H3 scope ce fp) rfl rfl rfl hc i [] s5 _ H5 (fun _ _ => False) I5 (stat I5 n5) st5 go) fun r s6 ⟨u, hr, h6⟩ => ?_
      subst hr
      refine thnF h6 fun _ s7 ⟨x, H7, I7, r7, y7, st7, n7⟩ => ?_
      refine thnF (pg.run _ s7 _ H7 x u _ (I7.pinned (stat I7 n7) (T.obj _ _ st7)) r7 (step x H7 y7)) fun _ s8 ⟨σ8, H8, I8, hw8, q8⟩ => ?_
      refine thnF (pt.run _ s8 σ8 H8 _ I8 q8) fun b s9 ⟨H9, I9, q9⟩ => ?_
      have fin : ∀ {s1 : Shared} {H1 : Hp}, Inv (X.blk s3 H3 scope ce fp) ([] ++ pinsAt fp s7.heap) σ8 H1 s1 → Nx H1 → ∃ m, m < n ∧ ∃ i H1, Inv (X.blk s3 H3 scope ce fp) [] (wipe σ (own.map (·.2))) H1 s1 ∧ tn i s1.heap ∧ (∀ b ∈ fp, H1 b = none) ∧ W i m H1 := fun {s1 H1} I1 nx => by
        obtain ⟨m1, hm, w1⟩ := hNx H1 nx
        have pin1 : ∀ b ∈ fp, ∀ o, s7.heap.get? b = some o → s1.heap.get? b = some o ∧ H1 b = none := fun b hb o e =>
          let z := I1.pin (b, o) (List.mem_append_right _ (List.mem_append_right _ (mem_pinsAt hb e)))
          ⟨z.1, z.2.1⟩
        have hl : (wipe σ (own.map (·.2))).length = σ8.length := by rw [← hw8, wipe_length]
        refine ⟨m1, hm, i + 1, H1, (I1.unpinned (pins := [])).weak hl (fun j v e => (wipe_some (by rw [← hw8] at e; exact e)).1), T.keep _ _ _ st7 fun b hb o e => (pin1 b hb o e).1, fun b hb => ?_, w1⟩
        obtain ⟨o, e, _⟩ := T.obj _ _ st7 b hb
        exact (pin1 b hb o e).2
      cases b with
      | false =>
        simp only [Bool.false_eq_true, if_false] at q9 ⊢
        exact fin I9 q9
      | true =>
        simp only [if_true] at q9 ⊢
        refine thnF (pe.run _ s9 σ8 H9 _ I9 q9) fun z s10 ⟨yv, H10, I10, r10, cx, xs0, ey, hD10, hz10, nx⟩ => ?_
        subst ey
        obtain ⟨tk, rfl⟩ := (show ∃ t, z = Value.str cx t from r10)
        exact tso_add (X := X.blk s3 H3 scope ce fp) I10 hD10 hz10 fun s11 I11 => fin I11 nx
  exact PpSet.codeAny_compStart_set loop (T.self X.A 0 _ _ _ st4 loop)
theorem pe_scT (hc : X.calm = true) (hN : X.N.Nodup) (hi : PI X tg iter wi) (ok : BlkOk X.N X.env.scope scope own)
    (hg : ∀ (s : Shared) (H : Hp) (C : Addr) (cl : List (PySem.Str × Addr)) (fp : List Addr), PG (X.blk s H scope (compEnvC scope cl C X.env) fp) tg g)
    (ht : ∀ (s : Shared) (H : Hp) (C : Addr) (cl : List (PySem.Str × Addr)) (fp : List Addr), PTs (X.blk s H scope (compEnvC scope cl C X.env) fp) ifs tt)
    (he : ∀ (s : Shared) (H : Hp) (C : Addr) (cl : List (PySem.Str × Addr)) (fp : List Addr), PE (X.blk s H scope (compEnvC scope cl C X.env) fp) elt te)
    (hs : ∀ x, foldedSetIterable iter X.env x = pure x := by intro _; rfl) :
    PE X (.SetComp elt [⟨tg, iter, ifs, 0⟩] scope pos) (tScT X.w wi g tt te (own.map (·.2))) := by
  refine ⟨fun pins s σ H Q I h => ?_⟩
  rw [PpSet.eval_SetComp]
  refine scT_core hc hN I hi ok hg ht he hs h fun D C s1 m H1 I1 q hn f => ⟨m, hn, fun h2 sb => ?_⟩
  obtain ⟨f0, f1, f2, f3, f4, f5⟩ := f
  exact ⟨.ref D, H1, I1.turned (t' := s1.toks) (fun b o hb e => (sb.2 b hb).trans e) f0 f1 f3 f4 f5, rfl, q⟩
end
end
end Mc

/-! Calls, subscripts, operators over data. -/
namespace Mc
open PySem PySem.Spec PyProof.Rows L2 Evl
section
variable {M : Mode} {δ : Ds} {ta tb te tx : TE} {t u : TT} {d e f : Dt} {P : Dt → Prop} {ds es : List Dt}
theorem one_of {K : PySem.W.Frag} {H : Hp} {vs : List V} (h : RpA K H [d] vs) : ∃ v, vs = [v] ∧ Rp K H d v := by
  obtain ⟨v, r, h1, h2, h3⟩ := h
  have e : r = [] := h3
  rw [e] at h1
  exact ⟨v, h1, h2⟩
theorem two_of {K : PySem.W.Frag} {H : Hp} {vs : List V} (h : RpA K H [d, e] vs) : ∃ v u, vs = [v, u] ∧ Rp K H d v ∧ Rp K H e u := by
  obtain ⟨v, r, h1, h2, h3⟩ := h
  obtain ⟨u, h4, h5⟩ := one_of h3
  rw [h4] at h1
  exact ⟨v, u, h1, h2, h5⟩
/-- data of a list or a tuple -/
def seqD : Dt → Option (List Dt)
  | .lst ds => some ds
  | .tup ds => some ds
  | _ => none
theorem seq_of {N : Mode} {H : Hp} {v : V} (hd : seqD d = some ds) (h : N.R H d v) : ∃ p xs, v = .ref p ∧ (SqL N.K H p xs ∨ SqT N.K H p xs) ∧ RpA N.K (cut N.S H) ds xs := by
  cases d <;> simp only [seqD, Option.some.injEq, reduceCtorEq] at hd
  · subst hd
    obtain ⟨a, xs, h1, h2, h3⟩ := h
    exact ⟨a, xs, h1, .inl (sq_of (cut_le _ _ _ _ h2)), h3⟩
  · subst hd
    obtain ⟨a, xs, h1, h2, h3⟩ := h
    exact ⟨a, xs, h1, .inr (ex_t (cut_le _ _) h2), h3⟩
theorem rc_len (hd : seqD d = some ds) : RCD M (fun xs H Q => ∃ p ys, xs = [.ref p] ∧ (SqL M.K H p ys ∨ SqT M.K H p ys) ∧ Q (.int ys.length) H) [d] (.int (ds.length : Nat)) := fun N n vs H j r Q q => by
  obtain ⟨v, rfl, h⟩ := one_of r
  obtain ⟨p, xs, rfl, h1, h2⟩ := seq_of hd h
  refine ⟨p, xs, rfl, by rw [← n.k]; exact h1, ?_⟩
  rw [h2.length]
  exact q _ _ H rfl Mode.Le.refl j rfl
theorem rc_list (hd : seqD d = some ds) : RCD M (fun xs H Q => ∃ p ys, xs = [.ref p] ∧ (SqL M.K H p ys ∨ SqT M.K H p ys) ∧ ∀ l, H l = none → Q (.ref l) (upd H l (.lst ys))) [d] (.lst ds) := fun N n vs H j r Q q => by
  obtain ⟨v, rfl, h⟩ := one_of r
  obtain ⟨p, xs, rfl, h1, h2⟩ := seq_of hd h
  refine ⟨p, xs, rfl, by rw [← n.k]; exact h1, fun l hl => ?_⟩
  obtain ⟨ex, j2, r2⟩ := n.ok.newL j hl h2
  exact q _ _ _ rfl (N.le ex) j2 r2
theorem rc_tuple (hd : seqD d = some ds) : RCD M (fun xs H Q => ∃ p ys, xs = [.ref p] ∧ ((SqL M.K H p ys ∧ ∀ l, H l = none → Q (.ref l) (upd H l (.tup ys))) ∨ (SqT M.K H p ys ∧ Q (.ref p) H))) [d] (.tup ds) := fun N n vs H j r Q q => by
  obtain ⟨v, rfl, h⟩ := one_of r
  cases d <;> simp only [seqD, Option.some.injEq, reduceCtorEq] at hd
  · subst hd
    obtain ⟨a, xs, rfl, h2, h3⟩ := h
    refine ⟨a, xs, rfl, .inl ⟨sq_of (cut_le _ _ _ _ h2), fun l hl => ?_⟩⟩
    obtain ⟨ex, j2, r2⟩ := n.ok.newT j hl h3
    exact q _ _ _ rfl (N.le ex) j2 r2
  · subst hd
    obtain ⟨a, xs, rfl, h2, h3⟩ := h
    refine ⟨a, xs, rfl, .inr ⟨by rw [← n.k]; exact ex_t (cut_le _ _) h2, q _ _ H rfl Mode.Le.refl j ⟨a, xs, rfl, h2, h3⟩⟩⟩
theorem rc_int {i : Int} : RCD M (fun xs H Q => (∃ i, xs = [.int i] ∧ Q (.int i) H) ∨ ∃ k, xs = [.bl k] ∧ Q (.int (if k then 1 else 0)) H) [.int i] (.int i) := fun N n vs H j r Q q => by
  obtain ⟨v, rfl, h⟩ := one_of r
  exact .inl ⟨i, by rw [show v = .int i from h], q _ _ H rfl Mode.Le.refl j rfl⟩
theorem rc_intB {b : Bool} : RCD M (fun xs H Q => (∃ i, xs = [.int i] ∧ Q (.int i) H) ∨ ∃ k, xs = [.bl k] ∧ Q (.int (if k then 1 else 0)) H) [.bl b] (.int (if b then 1 else 0)) := fun N n vs H j r Q q => by
  obtain ⟨v, rfl, h⟩ := one_of r
  exact .inr ⟨b, by rw [show v = .bl b from h], q _ _ H rfl Mode.Le.refl j rfl⟩
theorem rc_abs {i : Int} : RCD M (fun xs H Q => ∃ i, xs = [.int i] ∧ Q (.int (if i < 0 then -i else i)) H) [.int i] (.int (if i < 0 then -i else i)) := fun N n vs H j r Q q => by
  obtain ⟨v, rfl, h⟩ := one_of r
  exact ⟨i, by rw [show v = .int i from h], q _ _ H rfl Mode.Le.refl j rfl⟩
theorem rc_strS {x : Str} : RCD M (fun xs H Q => ∃ a, xs = [.str a] ∧ Q (.str a) H) [.str x] (.str x) := fun N n vs H j r Q q => by
  obtain ⟨v, rfl, h⟩ := one_of r
  exact ⟨x, by rw [show v = .str x from h], q _ _ H rfl Mode.Le.refl j rfl⟩
theorem rc_strI {i : Int} (hi : i.natAbs.log2 < 1920) : RCD M (fun xs H Q => ∃ i, xs = [.int i] ∧ i.natAbs.log2 < 1920 ∧ Q (.str (toString i)) H) [.int i] (.str (toString i)) := fun N n vs H j r Q q => by
  obtain ⟨v, rfl, h⟩ := one_of r
  exact ⟨i, by rw [show v = .int i from h], hi, q _ _ H rfl Mode.Le.refl j rfl⟩
/-- items -/
theorem at_rp {K : PySem.W.Frag} {H : Hp} {xs : List V} {i : Int} (h : RpA K H ds xs) (hi : atI ds i = some f) : ∃ v, atI xs i = some v ∧ Rp K H f v := by
  unfold atI at hi ⊢
  rw [h.length]
  cases hk : ixN ds.length i with
  | none =>
    rw [hk] at hi
    cases hi
  | some k =>
    rw [hk] at hi
    exact h.get' (i := k) hi
theorem rd_ixL {i : Int} (hi : atI ds i = some f) : R2D M (rIxL M.K) (.lst ds) (.int i) f := fun N n x y H j hx hy Q q => by
  obtain ⟨a, xs, rfl, h2, h3⟩ := hx
  obtain ⟨v, hv, hr⟩ := at_rp h3 hi
  exact ⟨a, xs, i, v, rfl, hy, sq_of (cut_le _ _ _ _ h2), hv, q _ _ H rfl Mode.Le.refl j hr⟩
theorem rd_ixT {i : Int} (hi : atI ds i = some f) : R2D M (rIxT M.K) (.tup ds) (.int i) f := fun N n x y H j hx hy Q q => by
  obtain ⟨a, xs, rfl, h2, h3⟩ := hx
  obtain ⟨v, hv, hr⟩ := at_rp h3 hi
  exact ⟨a, xs, i, v, rfl, hy, by rw [← n.k]; exact ex_t (cut_le _ _) h2, hv, q _ _ H rfl Mode.Le.refl j hr⟩
theorem rd_ixS {z : Str} {i : Int} {c : Nat} (hz : z.length ≤ 100000) (hi : atI z.cps.toList i = some c) : R2D M rIxS (.str z) (.int i) (.str ⟨#[c]⟩) := fun N n x y H j hx hy Q q =>
  ⟨z, i, c, hx, hy, sz_of hz, hi, q _ _ H rfl Mode.Le.refl j rfl⟩
theorem ed_ixL {i : Int} (ha : EvD M ta δ (.lst ds)) (hb : EvD M tb δ (.int i)) (hi : atI ds i = some f) : EvD M (tOp (rIxL M.K) ta tb) δ f := ed_op ha hb (rd_ixL hi)
theorem ed_ixT {i : Int} (ha : EvD M ta δ (.tup ds)) (hb : EvD M tb δ (.int i)) (hi : atI ds i = some f) : EvD M (tOp (rIxT M.K) ta tb) δ f := ed_op ha hb (rd_ixT hi)
/-- slices -/
def cutD (ds : List Dt) (lo hi : Option Int) : List Dt := (ds.drop (HT.sIx ds.length 0 lo)).take (HT.sIx ds.length ds.length hi - HT.sIx ds.length 0 lo)
theorem cut_rp {K : PySem.W.Frag} {H : Hp} {xs : List V} {lo hi : Option Int} (h : RpA K H ds xs) : RpA K H (cutD ds lo hi) (cutV xs lo hi) := by
  unfold cutD cutV
  rw [h.length]
  exact h.drop.take
theorem ep_slL {tl th : TO} {lo hi : Option Int} (h : EvD M te δ (.lst ds)) (h1 : EvO M tl δ lo) (h2 : EvO M th δ hi) : EvD M (tSl (rSlL M.K) te tl th) δ (.lst (cutD ds lo hi)) := fun N n σ H s Q q =>
  h N n σ H s _ fun d x H1 p1 e1 j1 r1 => h1 N n σ H1 (s.next e1 j1) _ fun l H2 p2 e2 j2 => h2 N n σ H2 ((s.next e1 j1).next e2 j2) _ fun u H3 p3 e3 j3 => by
    subst p1 p2 p3
    obtain ⟨a, xs, rfl, k2, k3⟩ := r1.mono (e2.trans e3)
    refine ⟨a, xs, rfl, sq_of (cut_le _ _ _ _ k2), fun p hp => ?_⟩
    obtain ⟨ex, j4, r4⟩ := n.ok.newL j3 hp (cut_rp (lo := l) (hi := u) k3)
    exact q _ _ _ rfl (((e1.trans e2).trans e3).trans (N.le ex)) j4 r4
theorem epp_slL {tl th : TO} {P P1 : Dt → Prop} {PL PU : Option Int → Prop} (h : EvP M te δ P1) (h1 : EvOp M tl δ PL) (h2 : EvOp M th δ PU) (hp : ∀ d, P1 d → ∃ ds, d = .lst ds ∧ ∀ lo hi, PL lo → PU hi → P (.lst (cutD ds lo hi))) : EvP M (tSl (rSlL M.K) te tl th) δ P := fun N n σ H s Q q =>
  h N n σ H s _ fun d x H1 p1 e1 j1 r1 => h1 N n σ H1 (s.next e1 j1) _ fun l H2 p2 e2 j2 => h2 N n σ H2 ((s.next e1 j1).next e2 j2) _ fun u H3 p3 e3 j3 => by
    obtain ⟨ds, rfl, hP⟩ := hp d p1
    obtain ⟨a, xs, rfl, k2, k3⟩ := r1.mono (e2.trans e3)
    refine ⟨a, xs, rfl, sq_of (cut_le _ _ _ _ k2), fun p hp => ?_⟩
    obtain ⟨ex, j4, r4⟩ := n.ok.newL j3 hp (cut_rp (lo := l) (hi := u) k3)
    exact q _ _ _ (hP l u p2 p3) (((e1.trans e2).trans e3).trans (N.le ex)) j4 r4
theorem cutD_take {k : Nat} : cutD ds none (some (k : Int)) = ds.take k := by
  unfold cutD
  rw [HT.sIx_none, HT.sIx_nat, List.drop_zero, Nat.sub_zero]
  by_cases h : k ≤ ds.length
  · rw [Nat.min_eq_left h]
  · rw [Nat.min_eq_right (by omega), List.take_of_length_le (Nat.le_refl _), List.take_of_length_le (by omega)]
theorem ep_slA {tl th : TO} {lo hi : Option Int} (h : EvD M te δ (.tup ds)) (h1 : EvO M tl δ lo) (h2 : EvO M th δ hi) : EvD M (tSl (rSlA M.K) te tl th) δ (.tup (cutD ds lo hi)) := fun N n σ H s Q q =>
  h N n σ H s _ fun d x H1 p1 e1 j1 r1 => h1 N n σ H1 (s.next e1 j1) _ fun l H2 p2 e2 j2 => h2 N n σ H2 ((s.next e1 j1).next e2 j2) _ fun u H3 p3 e3 j3 => by
    subst p1 p2 p3
    obtain ⟨a, xs, rfl, k2, k3⟩ := r1.mono (e2.trans e3)
    refine ⟨a, xs, rfl, by rw [← n.k]; exact ex_t (cut_le _ _) k2, fun hw => ?_, fun _ p hp => ?_⟩
    · refine q _ _ H3 rfl ((e1.trans e2).trans e3) j3 ⟨a, xs, rfl, k2, ?_⟩
      have e : cutD ds l u = ds := by
        rw [k3.length] at hw
        unfold cutD
        rw [hw.1, hw.2]
        simp
      rw [e]
      exact k3
    · obtain ⟨ex, j4, r4⟩ := n.ok.newT j3 hp (cut_rp (lo := l) (hi := u) k3)
      exact q _ _ _ rfl (((e1.trans e2).trans e3).trans (N.le ex)) j4 r4
theorem ep_slS {tl th : TO} {z : Str} {lo hi : Option Int} (h : EvD M te δ (.str z)) (hz : z.length ≤ 100000) (h1 : EvO M tl δ lo) (h2 : EvO M th δ hi) : EvD M (tSl rSlS te tl th) δ (.str (cutS z lo hi)) := fun N n σ H s Q q =>
  h N n σ H s _ fun d x H1 p1 e1 j1 r1 => h1 N n σ H1 (s.next e1 j1) _ fun l H2 p2 e2 j2 => h2 N n σ H2 ((s.next e1 j1).next e2 j2) _ fun u H3 p3 e3 j3 => by
    subst p1 p2 p3
    exact ⟨z, r1, sz_of hz, q _ _ H3 rfl ((e1.trans e2).trans e3) j3 rfl⟩
theorem ed_revL (h : EvD M te δ (.lst ds)) : EvD M (tRevL M.K te) δ (.lst ds.reverse) := fun N n σ H s Q q =>
  h N n σ H s _ fun d x H1 p1 e1 j1 r1 => by
    subst p1
    obtain ⟨a, xs, rfl, k2, k3⟩ := r1
    refine ⟨a, xs, rfl, sq_of (cut_le _ _ _ _ k2), fun p hp => ?_⟩
    obtain ⟨ex, j4, r4⟩ := n.ok.newL j1 hp k3.reverse
    exact q _ _ _ rfl (e1.trans (N.le ex)) j4 r4
/-- joining -/
theorem rd_cat (hl : ds.length + es.length ≤ 100000) : R2D M rCat (.lst ds) (.lst es) (.lst (ds ++ es)) := fun N n x y H j hx hy Q q => by
  obtain ⟨a, xs, rfl, h2, h3⟩ := hx
  obtain ⟨b, ys, rfl, k2, k3⟩ := hy
  refine ⟨a, b, xs, ys, rfl, rfl, cut_le _ _ _ _ h2, cut_le _ _ _ _ k2, sz_of (by rw [h3.length, k3.length]; exact hl), fun p hp => ?_⟩
  obtain ⟨ex, j4, r4⟩ := n.ok.newL j hp (h3.append k3)
  exact q _ _ _ rfl (N.le ex) j4 r4
theorem rd_catA (hl : ds.length + es.length ≤ 100000) : R2D M (rCatA M.K) (.tup ds) (.tup es) (.tup (ds ++ es)) := fun N n x y H j hx hy Q q => by
  obtain ⟨a, xs, rfl, h2, h3⟩ := hx
  obtain ⟨b, ys, rfl, k2, k3⟩ := hy
  have hr := h3.append k3
  refine ⟨a, b, xs, ys, rfl, rfl, by rw [← n.k]; exact ex_t (cut_le _ _) h2, by rw [← n.k]; exact ex_t (cut_le _ _) k2, sz_of (by rw [h3.length, k3.length]; exact hl), fun e => ?_, fun _ e => ?_, fun _ _ p hp => ?_⟩
  · rw [e] at hr
    exact q _ _ H rfl Mode.Le.refl j ⟨b, ys, rfl, k2, hr⟩
  · rw [e, List.append_nil] at hr
    exact q _ _ H rfl Mode.Le.refl j ⟨a, xs, rfl, h2, hr⟩
  · obtain ⟨ex, j4, r4⟩ := n.ok.newT j hp hr
    exact q _ _ _ rfl (N.le ex) j4 r4
theorem rd_addS {x y : Str} (hl : x.length + y.length ≤ 100000) : R2D M (fun x y H Q => ∃ i j, x = .str i ∧ y = .str j ∧ i.length + j.length ≤ sizeLine ∧ Q (.str (i ++ j)) H) (.str x) (.str y) (.str (x ++ y)) := fun N n a b H j hx hy Q q =>
  ⟨x, y, hx, hy, sz_of hl, q _ _ H rfl Mode.Le.refl j rfl⟩
/-! == of data -/
mutual
def pyD : Dt → PyData
  | .non => .none
  | .bl b => .bool b
  | .int i => .int i
  | .str x => .str x
  | .lst ds => .list (pyDs ds)
  | .tup ds => .tuple (pyDs ds)
  | _ => .none
def pyDs : List Dt → List PyData
  | [] => []
  | d :: ds => pyD d :: pyDs ds
end
mutual
def plainD : Dt → Bool
  | .non => true
  | .bl _ => true
  | .int _ => true
  | .str _ => true
  | .lst ds => plainDs ds
  | .tup ds => plainDs ds
  | _ => false
def plainDs : List Dt → Bool
  | [] => true
  | d :: ds => plainD d && plainDs ds
end
mutual
theorem dp_of {K : PySem.W.Frag} {H H' : Hp} (e : Ex H H') : ∀ {d : Dt} {v : V}, plainD d = true → Rp K H d v → Dp K H' v (pyD d)
  | .non, _, _, h => by rw [show _ = V.non from h]; exact .non
  | .bl b, _, _, h => by rw [show _ = V.bl b from h]; exact .bl b
  | .int i, _, _, h => by rw [show _ = V.int i from h]; exact .int i
  | .str x, _, _, h => by rw [show _ = V.str x from h]; exact .str x
  | .lst ds, _, p, ⟨a, xs, h1, h2, h3⟩ => by rw [h1]; exact .lst (sq_of (e _ _ h2)) (dp_all e p h3)
  | .tup ds, _, p, ⟨a, xs, h1, h2, h3⟩ => by rw [h1]; exact .tup (ex_t e h2) (dp_all e p h3)
  | .ty _, _, p, _ => nomatch p
  | .ptr _, _, p, _ => nomatch p
  | .obj _ _, _, p, _ => nomatch p
theorem dp_all {K : PySem.W.Frag} {H H' : Hp} (e : Ex H H') : ∀ {ds : List Dt} {vs : List V}, plainDs ds = true → RpA K H ds vs → DpAll K H' vs (pyDs ds)
  | [], _, _, h => by rw [show _ = [] from h]; exact .nil
  | d :: ds, _, p, ⟨v, r, h1, h2, h3⟩ => by
    have p' : plainD d = true ∧ plainDs ds = true := by simpa [plainDs] using p
    rw [h1]
    exact .cons (dp_of e p'.1 h2) (dp_all e p'.2 h3)
end
theorem rd_eqD (h1 : plainD d = true) (h2 : plainD e = true) (s1 : SeqAt.shaped (pyD d) = true) (s2 : SeqAt.shaped (pyD e) = true) : R2D M (rEqD M.K) d e (.bl (PyData.eqv (pyD d) (pyD e))) := fun N n x y H j hx hy Q q =>
  ⟨pyD d, pyD e, by rw [← n.k]; exact dp_of (cut_le _ _) h1 hx, by rw [← n.k]; exact dp_of (cut_le _ _) h2 hy, s1, s2, q _ _ H rfl Mode.Le.refl j rfl⟩
theorem rd_neD (h1 : plainD d = true) (h2 : plainD e = true) (s1 : SeqAt.shaped (pyD d) = true) (s2 : SeqAt.shaped (pyD e) = true) : R2D M (rNeD M.K) d e (.bl (!PyData.eqv (pyD d) (pyD e))) := fun N n x y H j hx hy Q q =>
  ⟨pyD d, pyD e, by rw [← n.k]; exact dp_of (cut_le _ _) h1 hx, by rw [← n.k]; exact dp_of (cut_le _ _) h2 hy, s1, s2, q _ _ H rfl Mode.Le.refl j rfl⟩
/-- in, of flat things -/
def flatD : Dt → Option V
  | .non => some .non
  | .bl b => some (.bl b)
  | .int i => some (.int i)
  | .str x => some (.str x)
  | _ => none
theorem flat_v {N : Mode} {H : Hp} {v w : V} (h : flatD d = some w) (r : N.R H d v) : v = w ∧ flatV v = true := by
  cases d <;> simp only [flatD, Option.some.injEq, reduceCtorEq] at h
  all_goals (subst h; refine ⟨r, ?_⟩; rw [show v = _ from r]; rfl)
/-- all, any, sum -/
theorem rc_all {bs : List Bool} : RCD M (rAll M.K) [.lst (bs.map Dt.bl)] (.bl (bs.all id)) := fun N n vs H j r Q q => by
  obtain ⟨v, rfl, a, xs, rfl, h2, h3⟩ := one_of r
  rw [rpA_bls] at h3
  subst h3
  exact ⟨a, bs, rfl, sq_of (cut_le _ _ _ _ h2), q _ _ H rfl Mode.Le.refl j rfl⟩
theorem rc_any {bs : List Bool} : RCD M (rAny M.K) [.lst (bs.map Dt.bl)] (.bl (bs.any id)) := fun N n vs H j r Q q => by
  obtain ⟨v, rfl, a, xs, rfl, h2, h3⟩ := one_of r
  rw [rpA_bls] at h3
  subst h3
  exact ⟨a, bs, rfl, sq_of (cut_le _ _ _ _ h2), q _ _ H rfl Mode.Le.refl j rfl⟩
theorem rc_sum {ns : List Int} : RCD M (rSum M.K) [.lst (ns.map Dt.int)] (.int ns.sum) := fun N n vs H j r Q q => by
  obtain ⟨v, rfl, a, xs, rfl, h2, h3⟩ := one_of r
  rw [rpA_ints] at h3
  subst h3
  exact ⟨a, ns, rfl, sq_of (cut_le _ _ _ _ h2), q _ _ H rfl Mode.Le.refl j rfl⟩
theorem rc_sortedS {xs : List Str} (hl : xs.length < 64) : RCP M (rSortedS M.K) [.lst (xs.map Dt.str)] (fun d => ∃ ys : List Str, ys.Perm xs ∧ sortedS ys = true ∧ d = .lst (ys.map Dt.str)) := fun N n vs H j r Q q => by
  obtain ⟨v, rfl, a, zs, rfl, h2, h3⟩ := one_of r
  rw [rpA_strs] at h3
  subst h3
  refine ⟨a, xs, rfl, sq_of (cut_le _ _ _ _ h2), hl, fun ys p hp hs hn => ?_⟩
  obtain ⟨ex, j4, r4⟩ := n.ok.newL (ds := ys.map Dt.str) j hn (rpA_strs.mpr rfl)
  exact q _ _ _ ⟨ys, hp, hs, rfl⟩ (N.le ex) j4 r4
end
end Mc

/-! Rules of the machine that the layer lacks: lists or tuples walked, enumerate of a tuple, repr of data. -/
namespace Mc
open PySem PySem.Spec PyProof.Rows L2 Evl

/-! ### for x in v, v a list or a tuple -/
def iSeq (K : PySem.W.Frag) (tl : TE) : TI := fun σ H R => tl σ H fun x H1 => ∃ a, x = .ref a ∧ (((∃ xs, SqL K H1 a xs) ∧ R (Itl K a) H1) ∨ ((∃ xs, SqT K H1 a xs) ∧ R (Itt K a) H1))
section
variable {X : Cx} {tg : Expr}
theorem one_it {pins : List (Addr × Obj)} {σ : L2.St} {H1 : Hp} {s1 : Shared} (I1 : Inv X pins σ H1 s1) : ∀ b ∈ [s1.heap.objs.size], FpOk X pins H1 b := fun b hb => by
  rw [List.mem_singleton.mp hb]
  exact I1.fpOk (Nat.le_refl _) (I1.hok.fresh (Nat.le_refl _))
theorem pi_seq {l : Expr} {tl : TE} (hl : PE X l tl) : PI X tg l (iSeq X.K tl) := by
  refine ⟨fun pins s σ H R I h => thn (hl.run pins s σ H _ I h) fun v s1 ⟨x, H1, I1, r1, a, e, q⟩ => ?_⟩
  subst e
  cases r1
  rcases q with ⟨⟨xs, hq⟩, q⟩ | ⟨⟨xs, hq⟩, q⟩
  · obtain ⟨its, rv, p, hz⟩ := I1.list hq
    exact wpAny_pyIter_list p.isList ⟨_, _, _, _, H1, rfl, I1.kept (t' := s1.toks) fun b o e => Heap.get?_push_of_some _ e, turn_list a _, ⟨_, Heap.get?_push_size _ rfl, rfl, rfl⟩, one_it I1, q⟩
  · obtain ⟨its, rv, p, hz⟩ := I1.tuple hq
    exact wpAny_pyIter_tuple (show s1.heap.IsTuple a its.toArray from p) ⟨_, _, _, _, H1, rfl, I1.kept (t' := s1.toks) fun b o e => Heap.get?_push_of_some _ e, turn_tuple a _, ⟨_, Heap.get?_push_size _ rfl, rfl, rfl⟩, one_it I1, q⟩
end

/-! ### enumerate(t), t a tuple -/
set_option maxHeartbeats 4000000 in
theorem meets_enum1 {v : Value} {o : Obj} {G : Heap → Prop} (B : Begins v o G) :
    Meets (Builtin.«enumerate.__new__» ⟨[.type "enumerate", v], []⟩) (fun _ R s => G s.heap ∧
      R (.ok (.ret (.ref (s.heap.push o).objs.size))) { s with heap := (s.heap.push o).push { cls := .type "enumerate", data := .fields #[.none, .bool false, .ref s.heap.objs.size, rawInt 0, .none, .none] } }) :=
  .of_wp fun prog w A R s h => by
    obtain ⟨hp, g, d, tk, os⟩ := s
    obtain ⟨h1, h⟩ := h
    have hsub := sub_enumerate
    have q1 : ∀ {A1 : Around} {E : Value → Shared → Prop} {Q : Value → Shared → Prop}, Q (.ref hp.objs.size) ⟨hp.push o, g, d, tk, os⟩ → wpAny (model prog w) A1 (pyIter v) Q E ⟨hp, g, d, tk, os⟩ :=
      fun q => B.iter prog w _ _ ⟨hp, g, d, tk, os⟩ _ h1 q
    wp_walk using q1
    refine wpAny_stack_any fun st => wpAny_pure ?_
    split
    · rename_i c _ _ _ _ _
      cases (c == Value.type "enumerate") <;> (wp_walk using q1; exact ⟨_, rfl, h⟩)
    · wp_walk using q1
      exact ⟨_, rfl, h⟩
theorem enum1_begins {prog : Program} {w : World} {A : Around} {E : Value → Shared → Prop} {s : Shared} {v : Value} {o : Obj} {G : Heap → Prop} {Q : Value → Shared → Prop} (B : Begins v o G) (h1 : G s.heap)
    (h : ∀ h2, IsEnum h2 (s.heap.objs.size + 1) s.heap.objs.size 0 .none → h2.get? s.heap.objs.size = some o → (∀ b o, s.heap.get? b = some o → h2.get? b = some o) → Q (.ref (s.heap.objs.size + 1)) { s with heap := h2 }) :
    wpAny (model prog w) A (call (.type "enumerate") [v]) Q E s := by
  refine callType_new F.called_enumerate (by decide) (F.typeCall_enumerate_1 _) (F.newCall_enumerate_1 _) (fun obj => F.args_object_init_2 obj _) F.entry_enumerate_new (meets_enum1 B) ⟨h1, ?_⟩
  have hz : (s.heap.push o).objs.size = s.heap.objs.size + 1 := Heap.size_push ..
  show _ ∧ _
  rw [hz]
  have he : IsEnum ((s.heap.push o).push { cls := .type "enumerate", data := .fields #[.none, .bool false, .ref s.heap.objs.size, rawInt 0, .none, .none] }) (s.heap.objs.size + 1) s.heap.objs.size 0 .none := by
    have z := Heap.get?_push_size (s.heap.push o) (o := { cls := .type "enumerate", data := .fields #[.none, .bool false, .ref s.heap.objs.size, rawInt 0, .none, .none] }) rfl
    rwa [hz] at z
  exact ⟨⟨_, he, rfl⟩, h _ he (Heap.get?_push_of_some _ (Heap.get?_push_size _ B.free)) fun b u x => Heap.get?_push_of_some _ (Heap.get?_push_of_some _ x)⟩
theorem wpAny_pyNext_enumT_end {prog : Program} {w : World} {A : Around} {E : Value → Shared → Prop} {s : Shared} {e it t : Addr} {i : Nat} {k : Int} {items : Array Value} {old : Value} {Q : Option Value → Shared → Prop} (hh : A.handled = none)
    (he : IsEnum s.heap e it k old) (hit : s.heap.IsTupleIter it t i) (ht : s.heap.IsTuple t items) (hx : items[i]? = none)
    (hQ : ∀ h2, Heap.ExtBut it s.heap h2 → Q none { s with heap := h2 }) : wpAny (model prog w) A (pyNext (.ref e)) Q E s := by
  have hT : s.TypeIs (.ref e) "enumerate" := ⟨_, he, rfl⟩
  unfold pyNext
  refine wpAny_bind (wpAny_attempt (wpAny_callSpecial?_slot (name := Str.ofString "__next__") hT F.slot_enumerate_next (wpAny_call_entry F.slot_enumerate_next hT F.entry_enumerate_next ?_ (F.args_enumerate_next_1 _))))
  show wpAny _ _ (field (.ref e) 2 >>= _) _ _ _
  refine wpAny_bind (wpAny_field he rfl (x := .ref it) rfl (wpAny_bind (wpAny_nextOf_tuple_end (A := A.in1) hh hit ht hx fun h2 x e2 ⟨o, ho, hc⟩ => ?_)))
  exact wpAny_bind (wpAny_isInstance (T := "StopIteration") (b := true) ⟨o, ho, hc⟩ isSubtype_stop (wpAny_pure (hQ _ e2)))
/-- the tuple at a, each item in a new pair -/
def Itet (K : PySem.W.Frag) (a : Addr) : It :=
  ⟨fun i H => ∃ (xs : List V) (x : V), SqT K H a xs ∧ xs[i]? = some x, fun i H v H' => ∃ T x, v = .ref T ∧ H T = none ∧ H' = upd H T (.tup [.int (i : Nat), x]) ∧ ∀ xs, SqT K H a xs → xs[i]? = some x, fun i H => ∃ xs : List V, SqT K H a xs ∧ xs.length ≤ i⟩
theorem turn_enumT {P : Program} {w : World} {K : PySem.W.Frag} {elts : List Expr} {kk : Nat} {tpos : Pos} (a e it : Addr) (items : Array Value) (hat : a ≠ it) :
    Turn P w K (.Tuple elts kk tpos) (Itet K a) [e, it] e (fun i h => (∃ old, IsEnum h e it ((i : Nat) : Int) old) ∧ h.IsTupleIter it a i ∧ e ≠ it ∧ e ≠ a) where
  mem := by simp
  obj := fun i h st b hb => by
    obtain ⟨⟨old, he⟩, ⟨o, ho, hc, hd⟩, _⟩ := st
    rcases (show b = e ∨ b = it by simpa using hb) with z | z
    · rw [z]; exact ⟨_, he, fun v q => nomatch q⟩
    · rw [z]; exact ⟨o, ho, fun v q => by rw [hd] at q; cases q⟩
  keep := fun i h h2 st k => let ⟨⟨old, he⟩, hi, hne⟩ := st; ⟨⟨old, k e (by simp) _ he⟩, hi.at fun o q => k it (by simp) o q, hne⟩
  item := by
    intro X hP hw hK hc i pins s σ H E I hf st hg
    subst hP hw hK
    obtain ⟨⟨old, he⟩, hit, hne, hea⟩ := st
    obtain ⟨xs, x, hq, hx⟩ := hg
    obtain ⟨its, rv, p, hz⟩ := I.tuple hq
    obtain ⟨u, hu, ru⟩ := rv.get hx
    have hel : e < s.heap.objs.size := Heap.lt_size he
    have hil : it < s.heap.objs.size := by obtain ⟨_, q, _⟩ := hit; exact Heap.lt_size q
    have D := Draws.tuple (prog := X.prog) (w := X.w) (A := X.A.in1) (show X.A.in1.handled = none from I.ok.hd hc) it a hat its.toArray
    have hlt : i < its.toArray.size := by
      rw [List.size_toArray]
      exact (List.getElem?_eq_some_iff.mp hu).1
    refine wpAny_pyNext_enum_itemD D he ⟨hit, p⟩ hlt hne (by simp [hne, hea]) fun y h2 tk hP hout hst hT hsz hk => ?_
    have ey : y = u := by
      have z : its.toArray[i]? = some y := hP
      rw [List.getElem?_toArray, hu] at z
      exact (Option.some.inj z).symm
    subst ey
    refine ⟨_, rfl, wpAny_letOwnedTupleGo_enum (s := { s with heap := h2, toks := tk + 1 }) hout fun h3 he3 sb => ?_⟩
    have hT3 : h3.get? s.heap.objs.size = some { cls := .type "tuple", data := .seq #[.int i tk, y] } := (sb.2 _ (Nat.ne_of_gt hel)).trans hT
    have new : ObjOk X.prog X.w (upd H s.heap.objs.size (.tup [.int (i : Nat), x])) h3 s.heap.objs.size (.tup [.int (i : Nat), x]) :=
      ⟨by show 2 ≤ sizeLine; decide, [.int i tk, y], .cons ⟨_, rfl⟩ (.cons ru .nil), ⟨_, hT3, rfl, _, rfl⟩⟩
    have I1 : Inv X pins σ (upd H s.heap.objs.size (.tup [.int (i : Nat), x])) { s with heap := h3, toks := tk + 1 } :=
      I.turnedNew (ch := [e, it]) (fun b ob hb q => (sb.2 b (fun z => hb (by simp [z]))).trans (hk b ob (fun z => hb (by simp [z])) (fun z => hb (by simp [z])) q)) hf (Nat.le_refl _) new
    refine ⟨.ref s.heap.objs.size, _, I1, rfl, ⟨_, x, rfl, I.hok.fresh (Nat.le_refl _), rfl, fun ys hy => by rw [I.tuple_inj hy hq]; exact hx⟩, ⟨⟨y, ?_⟩, hst.1.at fun o q => (sb.2 it (Ne.symm hne)).trans q, hne, hea⟩, fun b hb => ?_⟩
    · rw [show ((i + 1 : Nat) : Int) = (i : Int) + 1 by omega]
      exact he3
    · have hb2 : b < s.heap.objs.size := by
        rcases (show b = e ∨ b = it by simpa using hb) with z | z
        · rw [z]; exact hel
        · rw [z]; exact hil
      rw [upd_ne (Nat.ne_of_lt hb2)]
      exact (hf b hb).1
  done := by
    intro X hP hw hK hc i pins s σ H E I hf st hg
    subst hP hw hK
    obtain ⟨⟨old, he⟩, hit, hne, hea⟩ := st
    obtain ⟨xs, hq, hx⟩ := hg
    obtain ⟨its, rv, p, hz⟩ := I.tuple hq
    obtain ⟨f0, f1, f2, f3, f4, f5⟩ := hf it (by simp)
    have hl := rv.length
    refine wpAny_pyNext_enumT_end (I.ok.hd hc) he hit p (by simp; omega) fun h2 eb => ⟨rfl, I.turned (t' := s.toks) (fun b o hb q => eb b o hb q) f0 f1 f3 f4 f5⟩
  self := fun A i s Q E st h => let ⟨⟨_, he⟩, _⟩ := st; wpAny_pyIter_enum he h

/-- enumerate(v), v a list or a tuple -/
def iEnumS (K : PySem.W.Frag) (ta : TA) : TI := fun σ H R => ta σ H fun vs H1 => ∃ a xs, vs = [.ref a] ∧ ((SqL K H1 a xs ∧ R (Ite K a) H1) ∨ (SqT K H1 a xs ∧ R (Itet K a) H1))
theorem pi_enumS {X : Cx} {e : Expr} {ta : TA} {p pos tpos : Pos} {elts : List Expr} {kk : Nat} (hg : Gl X "enumerate") (hm : X.mg "enumerate" = none) (ha : PA X [e] ta) (hs : starEach [e] X.env = [(false, eval e X.env)] := by rfl) :
    PI X (.Tuple elts kk tpos) (.Call (.Name "enumerate" p) [e] [] pos) (iEnumS X.K ta) := by
  refine ⟨fun pins s σ H R I h => Call_ (ld_blt I hg hm boot_enumerate (PyProof.Rows.callWith_type1 (thn (ha.run pos pins s σ H _ I h) fun us s1 ⟨vs, H1, I1, r1, a, xs, ex, q⟩ => ?_) hs rfl))⟩
  subst ex
  obtain ⟨u, rfl, rx⟩ := vals1 r1
  cases rx
  have fp : ∀ b ∈ [s1.heap.objs.size + 1, s1.heap.objs.size], FpOk X pins H1 b := fun b hb => by
    have hle : s1.heap.objs.size ≤ b := by
      rcases (show b = s1.heap.objs.size + 1 ∨ b = s1.heap.objs.size by simpa using hb) with z | z
      · rw [z]; exact Nat.le_add_right _ _
      · rw [z]; exact Nat.le_refl _
    exact I1.fpOk hle (I1.hok.fresh hle)
  rcases q with ⟨hq, q⟩ | ⟨hq, q⟩
  · obtain ⟨its, rv, p1, hz⟩ := I1.list hq
    refine call_enumerate_list p1.isList fun h2 he hit hsz hk => wpAny_pyIter_enum he ?_
    exact ⟨_, _, _, _, H1, rfl, I1.kept (t' := s1.toks) hk, turn_enum a (s1.heap.objs.size + 1) s1.heap.objs.size, ⟨⟨.none, he⟩, hit, Nat.succ_ne_self _⟩, fp, q⟩
  · obtain ⟨its, rv, p1, hz⟩ := I1.tuple hq
    have hlt : a < s1.heap.objs.size := p1.lt
    refine enum1_begins (begins_tuple a its.toArray) p1 fun h2 he hit hk => wpAny_pyIter_enum he ?_
    exact ⟨_, _, _, _, H1, rfl, I1.kept (t' := s1.toks) hk, turn_enumT a (s1.heap.objs.size + 1) s1.heap.objs.size its.toArray (Nat.ne_of_lt hlt), ⟨⟨.none, he⟩, ⟨_, hit, rfl, rfl⟩, Nat.succ_ne_self _, Nat.ne_of_gt (Nat.lt_succ_of_lt hlt)⟩, fp, q⟩

/-! ### repr -/
theorem cr_repr {X : Cx} (hg : X.A.guards = some []) (hu : X.A.units + 64 < cLine) : CallR X (.builtin "repr") (fun vs H Q => ∃ v d, vs = [v] ∧ (∃ a, v = .ref a) ∧ Dp X.K H v d ∧ d.showable = true ∧ d.hasDict = false ∧ d.depth ≤ 60 ∧ d.shown.length ≤ sizeLine ∧ Q (.str d.shown) H) := by
  intro pins s σ H vs us Q I r h
  obtain ⟨v, d, rfl, ⟨a, rfl⟩, hd, hs, hn, hdp, hz, q⟩ := h
  obtain ⟨u, rfl, rx⟩ := vals1 r
  obtain ⟨as, rd⟩ := Dp.reads I d _ _ hd rx
  cases rx
  exact repr_of_reads' rd hs (PyData.noDict_hsm hn) hg (by omega) (fun _ _ e => e) (fun h2 t tk hk => ⟨.str d.shown, H, I.kept (t' := tk) hk, ⟨t, rfl⟩, q⟩) hz
section
variable {M : Mode} {δ : Ds} {te : TE} {d : Dt} {ds : List Dt}
theorem rc_repr (hp : plainD d = true) (ha : (∃ ds, d = .lst ds) ∨ ∃ ds, d = .tup ds) (hs : (pyD d).showable = true) (hn : (pyD d).hasDict = false) (hdp : (pyD d).depth ≤ 60) (hz : (pyD d).shown.length ≤ sizeLine) :
    RCD M (fun vs H Q => ∃ v d, vs = [v] ∧ (∃ a, v = .ref a) ∧ Dp M.K H v d ∧ d.showable = true ∧ d.hasDict = false ∧ d.depth ≤ 60 ∧ d.shown.length ≤ sizeLine ∧ Q (.str d.shown) H) [d] (.str (pyD d).shown) := fun N n vs H j r Q q => by
  obtain ⟨v, rfl, h⟩ := one_of r
  refine ⟨v, pyD d, rfl, ?_, by rw [← n.k]; exact dp_of (cut_le _ _) hp h, hs, hn, hdp, hz, q _ _ H rfl Mode.Le.refl j rfl⟩
  rcases ha with ⟨ds, rfl⟩ | ⟨ds, rfl⟩
  · obtain ⟨a, _, h1, _⟩ := h
    exact ⟨a, h1⟩
  · obtain ⟨a, _, h1, _⟩ := h
    exact ⟨a, h1⟩
/-! ### walks over data -/
theorem ew_seq (h : EvD M te δ d) (hd : seqD d = some ds) : EvW M (iSeq M.K te) δ ds := fun N n σ H s R q => h N n σ H s _ fun d' v H1 p1 e1 j1 r1 => by
  subst p1
  cases d' <;> simp only [seqD, Option.some.injEq, reduceCtorEq] at hd
  · subst hd
    obtain ⟨a, xs, h1, h2, h3⟩ := r1
    refine ⟨a, h1, .inl ⟨⟨xs, sq_of (cut_le _ _ _ _ h2)⟩, q _ _ H1 rfl e1 j1 fun N' n' ec => ?_⟩⟩
    rw [← n.k, ← n'.k]
    rw [← n'.k, ← ec] at h3
    rw [← ec] at h2
    exact turns_list h2 h3
  · subst hd
    obtain ⟨a, xs, h1, h2, h3⟩ := r1
    refine ⟨a, h1, .inr ⟨⟨xs, by rw [← n.k]; exact ex_t (cut_le _ _) h2⟩, q _ _ H1 rfl e1 j1 fun N' n' ec => ?_⟩⟩
    rw [← n.k, ← n'.k]
    rw [← n'.k, ← ec] at h2 h3
    exact turns_tup h2 h3
def enumD (ds : List Dt) : List Dt := (List.range ds.length).zipWith (fun (i : Nat) d => Dt.tup [.int (i : Nat), d]) ds
theorem enumD_len (ds : List Dt) : (enumD ds).length = ds.length := by simp [enumD]
theorem enumD_get {ds : List Dt} {i : Nat} {d : Dt} (h : (enumD ds)[i]? = some d) : ∃ e, ds[i]? = some e ∧ d = .tup [.int (i : Nat), e] ∧ i < ds.length := by
  unfold enumD at h
  rw [List.getElem?_zipWith] at h
  by_cases hi : i < ds.length
  · rw [List.getElem?_range hi, List.getElem?_eq_getElem hi] at h
    exact ⟨ds[i], List.getElem?_eq_getElem hi, (Option.some.inj h).symm, hi⟩
  · rw [List.getElem?_eq_none (by simpa using hi)] at h
    cases h
theorem yld_pair {N : Mode} (o : N.Ok) {H' : Hp} {T : Addr} {i : Nat} {x : V} {e : Dt} (j : N.J H') (hT : H' T = none) (r : N.R H' e x) :
    N.Le H' (upd H' T (.tup [.int (i : Nat), x])) ∧ N.J (upd H' T (.tup [.int (i : Nat), x])) ∧ N.R (upd H' T (.tup [.int (i : Nat), x])) (.tup [.int (i : Nat), e]) (.ref T) ∧ Ex H' (upd H' T (.tup [.int (i : Nat), x])) := by
  obtain ⟨ex, j2, r2⟩ := o.newT (ds := [.int (i : Nat), e]) (xs := [.int (i : Nat), x]) j hT ⟨_, _, rfl, rfl, RpA.one r⟩
  exact ⟨N.le ex, j2, r2, ex⟩
theorem turns_enumL {N : Mode} (o : N.Ok) {H1 : Hp} {a : Addr} {xs : List V} (hx0 : cut N.S H1 a = some (.lst xs)) (hr : RpA N.K (cut N.S H1) ds xs) : Turns N (Ite N.K a) H1 (enumD ds) where
  go := fun i H' l j hi => by
    rw [enumD_len] at hi
    exact ⟨xs, xs[i]'(by rw [hr.length]; exact hi), sq_of (cut_le _ _ _ _ (l _ _ hx0)), List.getElem?_eq_getElem _⟩
  stop := fun H' l j => ⟨xs, sq_of (cut_le _ _ _ _ (l _ _ hx0)), by rw [hr.length, enumD_len]; exact Nat.le_refl _⟩
  yld := fun i H' x H'' d l j y hd => by
    obtain ⟨T, z, rfl, hT, rfl, hz⟩ := y
    obtain ⟨e, he, rfl, _⟩ := enumD_get hd
    obtain ⟨v, hv, hr'⟩ := hr.get' he
    have ez := hz xs (sq_of (cut_le _ _ _ _ (l _ _ hx0)))
    rw [hv] at ez
    cases ez
    exact yld_pair o j hT (hr'.mono l)
theorem turns_enumT {N : Mode} (o : N.Ok) {H1 : Hp} {a : Addr} {xs : List V} (hx0 : SqT N.K (cut N.S H1) a xs) (hr : RpA N.K (cut N.S H1) ds xs) : Turns N (Itet N.K a) H1 (enumD ds) where
  go := fun i H' l j hi => by
    rw [enumD_len] at hi
    exact ⟨xs, xs[i]'(by rw [hr.length]; exact hi), ex_t (cut_le _ _) (ex_t l hx0), List.getElem?_eq_getElem _⟩
  stop := fun H' l j => ⟨xs, ex_t (cut_le _ _) (ex_t l hx0), by rw [hr.length, enumD_len]; exact Nat.le_refl _⟩
  yld := fun i H' x H'' d l j y hd => by
    obtain ⟨T, z, rfl, hT, rfl, hz⟩ := y
    obtain ⟨e, he, rfl, _⟩ := enumD_get hd
    obtain ⟨v, hv, hr'⟩ := hr.get' he
    have ez := hz xs (ex_t (cut_le _ _) (ex_t l hx0))
    rw [hv] at ez
    cases ez
    exact yld_pair o j hT (hr'.mono l)
theorem ew_enum {ta : TA} (h : EvAs M ta δ [d]) (hd : seqD d = some ds) : EvW M (iEnumS M.K ta) δ (enumD ds) := fun N n σ H s R q => h N n σ H s _ fun ds' vs H1 p1 e1 j1 r1 => by
  subst p1
  obtain ⟨v, rfl, r2⟩ := one_of r1
  cases d <;> simp only [seqD, Option.some.injEq, reduceCtorEq] at hd
  · subst hd
    obtain ⟨a, xs, rfl, h2, h3⟩ := r2
    refine ⟨a, xs, rfl, .inl ⟨sq_of (cut_le _ _ _ _ h2), q _ _ H1 rfl e1 j1 fun N' n' ec => ?_⟩⟩
    rw [← n.k, ← n'.k]
    rw [← n'.k, ← ec] at h3
    rw [← ec] at h2
    exact turns_enumL n'.ok h2 h3
  · subst hd
    obtain ⟨a, xs, rfl, h2, h3⟩ := r2
    refine ⟨a, xs, rfl, .inr ⟨by rw [← n.k]; exact ex_t (cut_le _ _) h2, q _ _ H1 rfl e1 j1 fun N' n' ec => ?_⟩⟩
    rw [← n.k, ← n'.k]
    rw [← n'.k, ← ec] at h2 h3
    exact turns_enumT n'.ok h2 h3
end
end Mc

/-! set(a list of texts); sorted sets over data. -/
namespace Mc
open PySem PySem.Spec PyProof.Rows L2 Evl

def addT (x : Str) (xs : List Str) : List Str := if x ∈ xs then xs else x :: xs
def dd (xs : List Str) : List Str := xs.foldl (fun acc x => addT x acc) []
theorem dd_snoc (xs : List Str) (x : Str) : dd (xs ++ [x]) = addT x (dd xs) := by unfold dd; rw [List.foldl_append]; rfl
theorem addT_len (x : Str) (xs : List Str) : (addT x xs).length ≤ xs.length + 1 := by unfold addT; split <;> simp
theorem mem_addT {x y : Str} {xs : List Str} : y ∈ addT x xs ↔ y = x ∨ y ∈ xs := by
  unfold addT
  split
  · constructor
    · exact Or.inr
    · rintro (h | h)
      · rw [h]; assumption
      · exact h
  · exact List.mem_cons
theorem nodup_addT {x : Str} {xs : List Str} (h : xs.Nodup) : (addT x xs).Nodup := by
  unfold addT
  split
  · exact h
  · exact List.nodup_cons.mpr ⟨by assumption, h⟩
theorem ddA_facts : ∀ (xs acc : List Str), acc.Nodup → (xs.foldl (fun acc x => addT x acc) acc).Nodup ∧ (xs.foldl (fun acc x => addT x acc) acc).length ≤ acc.length + xs.length ∧ ∀ y, y ∈ xs.foldl (fun acc x => addT x acc) acc ↔ y ∈ acc ∨ y ∈ xs
  | [], acc, h => ⟨h, Nat.le_refl _, fun y => by simp⟩
  | x :: xs, acc, h => by
    obtain ⟨h1, h2, h3⟩ := ddA_facts xs (addT x acc) (nodup_addT h)
    refine ⟨h1, ?_, fun y => ?_⟩
    · have := addT_len x acc
      simp only [List.foldl_cons, List.length_cons]
      omega
    · show y ∈ xs.foldl (fun acc x => addT x acc) (addT x acc) ↔ _
      rw [h3, mem_addT, List.mem_cons]
      constructor
      · rintro ((h | h) | h)
        · exact .inr (.inl h)
        · exact .inl h
        · exact .inr (.inr h)
      · rintro (h | h | h)
        · exact .inl (.inr h)
        · exact .inl (.inl h)
        · exact .inr h
theorem dd_facts (xs : List Str) : (dd xs).Nodup ∧ (dd xs).length ≤ xs.length ∧ ∀ y, y ∈ dd xs ↔ y ∈ xs := by
  obtain ⟨h1, h2, h3⟩ := ddA_facts xs [] List.nodup_nil
  exact ⟨h1, by unfold dd; simpa using h2, fun y => by have := h3 y; unfold dd; simpa using this⟩
section
variable {prog : Program} {w : World} {A : Around} {R : Result → Shared → Prop} {I : Addr} {fp wr : List Addr} {G : Array GenState → Array GenState → Prop} {n : Nat} {P : Nat → Value → Prop} {St : Nat → Shared → Prop}
theorem tset_loop (W : WalksS prog w A.in1 I fp wr G n P St) (S : Addr) (nS : S ∉ fp) (xs : List Str) (hsz : xs.length = n) (hn : n + 1 < scanBound) (hval : ∀ i v, P i v → ∃ t, v = .str (xs.getD i Str.empty) t) :
    ∀ (k i : Nat) (s : Shared), n - i = k → i ≤ n → St i s → TSet w s.heap S (dd (xs.take i)) →
      (∀ s', Moved (S :: wr) G s s' → TSet w s'.heap S (dd xs) → R (.ok (.ret .none)) s') → codeAny (model prog w) A (.builtin "set.update.loop" ⟨[.ref S, .ref I], []⟩) R s := by
  have nw : S ∉ wr := fun h => nS (W.sub _ h)
  have sub1 : ∀ b ∈ wr, b ∈ S :: wr := fun b hb => List.mem_cons_of_mem _ hb
  intro k
  induction k with
  | zero =>
    intro i s hk hi st hS hR
    obtain rfl : i = n := by omega
    refine codeAny_builtin PyProof.Rows.F.entry_set_update_loop ?_
    rw [Around.under_plainId PyProof.Rows.F.plain_set_update_loop _]
    show wpAny _ A.in1 (pyNext (.ref I) >>= _) _ _ s
    refine wpAny_bind (W.done s _ _ st fun s' hm => ?_)
    show wpAny _ A.in1 (ret Value.none) _ _ s'
    rw [List.take_of_length_le (Nat.le_of_eq hsz)] at hS
    exact wpAny_pure (hR s' (hm.mono sub1) (hS.at fun o e => hm.heap S _ nw e))
  | succ k ih =>
    intro i s hk hi st hS hR
    have hlt : i < n := by omega
    refine codeAny_builtin PyProof.Rows.F.entry_set_update_loop ?_
    rw [Around.under_plainId PyProof.Rows.F.plain_set_update_loop _]
    show wpAny _ A.in1 (pyNext (.ref I) >>= _) _ _ s
    refine wpAny_bind (W.item i s _ _ hlt st fun v s' hP st' hm => ?_)
    obtain ⟨t, rfl⟩ := hval i v hP
    have hS' : TSet w s'.heap S (dd (xs.take i)) := hS.at fun o e => hm.heap S _ nw e
    show wpAny _ A.in1 (holding [Value.str (xs.getD i Str.empty) t] (setAdd S (.str (xs.getD i Str.empty) t)) >>= _) _ _ s'
    refine wpAny_bind (wpAny_holding ?_)
    unfold setAdd
    refine wpAny_holding ?_
    refine wpAny_bind ((PySem.strKind prog w).pyHash (k := xs.getD i Str.empty) (strKind_is _ _ _ _) ?_)
    refine tset_add_hashed (s := { s' with toks := s'.toks + 1 }) hS' ?_ fun b h' hsb hS2 => ?_
    · have := (dd_facts (xs.take i)).2.1
      rw [List.length_take] at this
      omega
    have e1 : xs.take (i + 1) = xs.take i ++ [xs.getD i Str.empty] := by
      rw [List.take_add_one, List.getD_eq_getElem?_getD, List.getElem?_eq_getElem (by omega)]
      rfl
    have hS3 : TSet w h' S (dd (xs.take (i + 1))) := by
      rw [e1, dd_snoc]
      exact hS2
    refine wpAny_pure ⟨plainId_quiet PyProof.Rows.F.plain_set_update_loop _, ih (i + 1) _ (by omega) hlt (W.frame _ s' _ _ st' (Nat.le_succ _) fun b hb o e => ?_) hS3 fun s2 hm2 hS2 => ?_⟩
    · rw [hsb.2 b (fun z : b = S => nS (by rw [← z]; exact hb))]
      exact e
    · refine hR s2 (Moved.trans W.gtrans ((hm.mono sub1).then_heap (Nat.le_succ _) fun b o hb e => ?_) hm2) hS2
      rw [hsb.2 b (fun z : b = S => hb (by rw [z]; exact List.mem_cons_self))]
      exact e
end
section
variable {prog : Program} {w : World} {A : Around} {E : Value → Shared → Prop} {s : Shared}
/-- the empty set's object -/
abbrev noTxt (w : World) : Obj := { cls := .type "set", dict := none, data := .set #[] 0 (.fresh 0 0 (!w.params.followText "set-order")) }
theorem code_set_txt (a : Value) {Z : Value → Shared → Prop} (h : Z (.ref s.heap.objs.size) { s with heap := s.heap.push (noTxt w) }) :
    codeAny (model prog w) A (.call (.builtin "set.__new__") ⟨[.type "set", a], []⟩) (wants Z E) s := by
  refine codeAny_of_tree ?_
  show wpAny _ A.in1 (do checkBuiltinCall "set.__new__" ⟨[.type "set", a], []⟩; again (.builtin "set.__new__" ⟨[.type "set", a], []⟩)) _ _ _
  refine wpAny_bind (wpAny_of_eq (F.newCall_set_1 a) (wpAny_pure ⟨plainId_quiet F.plain_set_new _, codeAny_builtin F.entry_set_new ?_⟩))
  rw [Around.under_plainId F.plain_set_new _]
  unfold Builtin.«set.__new__» Builtin.Frozenset.newClass
  have sub1 := sub_set_self
  obtain ⟨hp, g, d, tk, os⟩ := s
  dsimp only
  wp_walk
  refine wpAny_askSetting (wpAny_pure ?_)
  dsimp only
  simp only [newObj]
  exact wpAny_bind (wpAny_alloc (wpAny_pure (wpAny_pure h)))
theorem call_set_txt {l : Addr} {items : Array Value} {xs : List Str} {Q : Value → Shared → Prop} (hh : A.handled = none) (hl : s.heap.IsList l items) (hi : PyProof.Rows.StrsAre items.toList xs) (hn : xs.length + 1 < scanBound)
    (h : ∀ (h' : Heap) (tk : Nat), TSet w h' s.heap.objs.size (dd xs) → (∀ b o, b < s.heap.objs.size → s.heap.get? b = some o → h'.get? b = some o) → Q (.ref s.heap.objs.size) { s with heap := h', toks := tk }) :
    wpAny (model prog w) A (call (.type "set") [.ref l]) Q E s := by
  obtain ⟨c, tl, hmro⟩ := PySem.F.called_set.mro
  have made1 := PySem.F.called_set.made
  have sub1 := PySem.F.called_set.sub
  refine wpAny_call (codeAny_of_tree ?_)
  show wpAny _ _ (callAny (.type "set") _) _ _ _
  refine wpAny_pure ⟨Code.quiet_builtin _ (by decide +kernel), codeAny_builtin PySem.F.entry_type_call ?_⟩
  rw [Around.under_plain (weight_type_call_type "set" [.ref l] []) rfl]
  have h1 := PySem.F.called_set.notType
  have h2 := PySem.F.called_set.canCreate
  have call1 := PySem.F.typeCall_set_1 (.ref l)
  repeat (any_goals (first | assumption | wp_step))
  refine codeAny_mono (code_set_txt (.ref l) (E := E) (Z := fun obj s1 => obj = .ref s.heap.objs.size ∧ s1 = { s with heap := s.heap.push (noTxt w) }) ⟨rfl, rfl⟩) fun r s1 hr => ?_
  cases r with
  | error e => exact hr
  | ok fl =>
    cases fl with
    | ret obj =>
      obtain ⟨rfl, rfl⟩ := hr
      have hS : (s.heap.push (noTxt w)).get? s.heap.objs.size = some (noTxt w) := Heap.get?_push_size _ rfl
      have hT : Shared.TypeIs { s with heap := s.heap.push (noTxt w) } (.ref s.heap.objs.size) "set" := ⟨_, hS, rfl⟩
      have li := PySem.F.called_set.init.lookup
      have bi := PySem.F.called_set.init.bind (.ref s.heap.objs.size)
      repeat (any_goals (first | assumption | wp_step))
      refine codeAny_mono (codeAny_call_builtin (R := wants (fun r s2 => r = .none ∧ ∃ h' tk, s2 = { s with heap := h', toks := tk } ∧ TSet w h' s.heap.objs.size (dd xs) ∧
          (∀ b o, b < s.heap.objs.size → s.heap.get? b = some o → h'.get? b = some o)) E) PySem.F.called_set.init.plain PySem.F.entry_set_init (check_set_init_1 hT ?_)) fun r2 s2 hr2 => ?_
      · obtain ⟨ol, hol, hcl, nl, hdl⟩ := hl
        obtain ⟨oc, od, odt, osl⟩ := ol
        simp only at hcl hdl
        subst hcl; subst hdl
        have hol1 : (s.heap.push (noTxt w)).get? l = some { cls := .type "list", dict := od, data := .seq items nl, slots := osl } := Heap.get?_push_of_some _ hol
        have q1 := PySem.F.sub_list_set
        have q2 := PySem.F.sub_list_frozenset
        have q3 : (Value.type "list" == Value.type "dict") = false := by decide
        have hl1 : (s.heap.push (noTxt w)).IsList l items := ⟨_, hol1, rfl, nl, rfl⟩
        unfold Builtin.«set.__init__» noKeywords Builtin.Frozenset.updateFrom
        generalize hPI : pyIter = PI
        wp_walk
        subst hPI
        refine wpAny_pyIter_list hl1 ?_
        refine wpAny_bind (wpAny_runValue ?_)
        have lt1 : l < s.heap.objs.size := Heap.lt_size hol
        have hh3 : A.in1.in1.in1.handled = none := by simp [hh]
        have ne1 : l ≠ (s.heap.push (noTxt w)).objs.size := by
          rw [Heap.size_push]
          exact Nat.ne_of_lt (Nat.lt_succ_of_lt lt1)
        have nf : s.heap.objs.size ∉ [(s.heap.push (noTxt w)).objs.size, l] := by
          rw [Heap.size_push]
          simp only [List.mem_cons, List.mem_singleton, List.not_mem_nil, or_false, not_or]
          exact ⟨Nat.ne_of_lt (Nat.lt_succ_self _), Nat.ne_of_gt lt1⟩
        have sz1 : xs.length = items.size := by rw [← StrsAre.len_eq hi, Array.length_toList]
        refine tset_loop ((Walks.list hh3 _ l ne1 items).toS) s.heap.objs.size nf xs sz1 (by omega) (fun i v hv => SS.strs_at hi i v (by rw [Array.getElem?_toList]; exact hv)) (items.size - 0) 0 _ (by omega) (Nat.zero_le _)
          ⟨⟨_, Heap.get?_push_size _ rfl, rfl, rfl⟩, (hl1.push _)⟩ ?hS0 ?hR
        case hS0 => exact (tset_fresh (h := s.heap) w).at fun o e => Heap.get?_push_of_some _ e
        case hR =>
          intro s' hm hS'
          obtain ⟨h', g', d', tk', os'⟩ := s'
          have eg : g' = s.gens := hm.gens
          have ed : d' = s.drawn := hm.drawn
          have eo : os' = s.os := hm.os
          subst eg; subst ed; subst eo
          show wpAny _ _ _ _ _ _
          refine wpAny_pure ?_
          show wpAny _ _ (ret Value.none) _ _ _
          refine wpAny_pure ⟨rfl, h', tk', rfl, hS', fun b o hb e => ?_⟩
          have b2 : b ≠ (s.heap.push (noTxt w)).objs.size := by
            rw [Heap.size_push]
            exact Nat.ne_of_lt (Nat.lt_succ_of_lt hb)
          exact hm.heap b o (by simp only [List.mem_cons, List.mem_singleton, List.not_mem_nil, or_false, not_or]; exact ⟨Nat.ne_of_lt hb, b2⟩) (Heap.get?_push_of_some _ (Heap.get?_push_of_some _ e))
      · cases r2 with
        | error e => exact hr2
        | ok fl2 =>
          cases fl2 with
          | ret r =>
            obtain ⟨rfl, h', tk, rfl, hS', hk'⟩ := hr2
            repeat (any_goals (first | assumption | wp_step))
            exact h _ _ hS' hk'
          | _ => exact hr2.elim
    | _ => exact hr.elim
end
section
variable {X : Cx}
def rSetL (K : PySem.W.Frag) (w : World) : List V → Hp → VK → Prop := fun vs H Q => ∃ (l : Addr) (xs : List Str), vs = [V.ref l] ∧ SqL K H l (xs.map V.str) ∧ xs.length + 1 < scanBound ∧ ∀ p, H p = none → Q (.ref p) (upd H p (TSO w p (dd xs)))
theorem cr_setL (hc : X.calm = true) : CallR X (.type "set") (rSetL X.K X.w) := by
  intro pins s σ H vs us Q I r h
  obtain ⟨l, xs, rfl, hs, hn, q⟩ := h
  obtain ⟨its, rv, hl, _⟩ := I.list hs
  rw [Vals.ref1 r]
  refine call_set_txt (I.ok.hd hc) hl.isList (by rw [List.toList_toArray]; exact rv.strs) hn fun h' tk hS hk => ?_
  exact ⟨.ref _, _, I.laid (t' := tk) (fun b o e => hk b o (Heap.lt_size e) e) (Nat.le_refl _) (tso_new hS), rfl, q _ (I.hok.fresh (Nat.le_refl _))⟩
end

/-! ### ascending texts -/
def ltT (x y : Str) : Bool := ltCps x.cps.toList y.cps.toList
def insT (x : Str) : List Str → List Str
  | [] => [x]
  | y :: r => if ltT x y = true then x :: y :: r else if x = y then y :: r else y :: insT x r
/-- each once, ascending -/
def ascT (xs : List Str) : List Str := xs.foldr insT []
def RisT (xs : List Str) : Prop := xs.Pairwise fun x y => ltT x y = true
end Mc

/-! Ascending lists of texts. -/
namespace Mc
open PySem PySem.Spec PyProof.Rows L2 Evl
theorem ltT_iff {x y : Str} : ltT x y = true ↔ x.cps.toList < y.cps.toList := by
  unfold ltT
  rw [ltCps_eq]
  exact decide_eq_true_iff
theorem str_ext {x y : Str} (h : x.cps.toList = y.cps.toList) : x = y := by
  cases x
  cases y
  simp only [Str.mk.injEq]
  exact Array.toList_inj.mp h
theorem ltT_irr (x : Str) : ltT x x = false := by
  cases h : ltT x x with
  | false => rfl
  | true => exact absurd (ltT_iff.mp h) (List.lt_irrefl _)
theorem ltT_trans {x y z : Str} (a : ltT x y = true) (b : ltT y z = true) : ltT x z = true := ltT_iff.mpr (List.lt_trans (ltT_iff.mp a) (ltT_iff.mp b))
theorem ltT_tri {x y : Str} (a : ltT x y = false) (b : ltT y x = false) : x = y := by
  refine str_ext (List.le_antisymm ?_ ?_)
  · intro h
    rw [ltT_iff.mpr h] at b
    cases b
  · intro h
    rw [ltT_iff.mpr h] at a
    cases a
theorem ltT_ne {x y : Str} (a : ltT x y = true) : x ≠ y := fun e => by
  subst e
  rw [ltT_irr] at a
  cases a
theorem mem_insT {x y : Str} : ∀ {l : List Str}, y ∈ insT x l ↔ y = x ∨ y ∈ l
  | [] => by simp [insT]
  | z :: r => by
    unfold insT
    split
    · simp
    · split
      · rename_i h
        subst h
        simp
      · rw [List.mem_cons, mem_insT, List.mem_cons]
        constructor
        · rintro (h | h | h) <;> simp [h]
        · rintro (h | h | h) <;> simp [h]
theorem ris_insT {x : Str} : ∀ {l : List Str}, RisT l → RisT (insT x l)
  | [], _ => List.pairwise_singleton _ _
  | z :: r, h => by
    obtain ⟨h1, h2⟩ := List.pairwise_cons.mp h
    unfold insT
    split
    · rename_i hx
      exact List.pairwise_cons.mpr ⟨fun y hy => by
        rcases List.mem_cons.mp hy with e | e
        · rw [e]; exact hx
        · exact ltT_trans hx (h1 y e), h⟩
    · split
      · exact h
      · rename_i hx hne
        refine List.pairwise_cons.mpr ⟨fun y hy => ?_, ris_insT h2⟩
        rcases mem_insT.mp hy with e | e
        · rw [e]
          cases hz : ltT z x with
          | true => rfl
          | false => exact absurd (ltT_tri (by simpa using hx) hz) hne
        · exact h1 y e
theorem mem_ascT {y : Str} : ∀ {l : List Str}, y ∈ ascT l ↔ y ∈ l
  | [] => Iff.rfl
  | x :: r => by
    show y ∈ insT x (ascT r) ↔ _
    rw [mem_insT, mem_ascT, List.mem_cons]
theorem ris_ascT : ∀ {l : List Str}, RisT (ascT l)
  | [] => List.Pairwise.nil
  | x :: r => ris_insT ris_ascT
theorem ris_nodup {l : List Str} (h : RisT l) : l.Nodup := h.imp fun q => ltT_ne q
/-- an ascending list is told by its members -/
theorem ris_eq : ∀ {l m : List Str}, RisT l → RisT m → (∀ y, y ∈ l ↔ y ∈ m) → l = m
  | [], [], _, _, _ => rfl
  | [], y :: m, _, _, h => absurd ((h y).mpr List.mem_cons_self) List.not_mem_nil
  | x :: l, [], _, _, h => absurd ((h x).mp List.mem_cons_self) List.not_mem_nil
  | x :: l, y :: m, hl, hm, h => by
    obtain ⟨l1, l2⟩ := List.pairwise_cons.mp hl
    obtain ⟨m1, m2⟩ := List.pairwise_cons.mp hm
    have e : x = y := by
      rcases List.mem_cons.mp ((h x).mp List.mem_cons_self) with z | z
      · exact z
      · rcases List.mem_cons.mp ((h y).mpr List.mem_cons_self) with z' | z'
        · exact z'.symm
        · have a := l1 y z'
          have b := m1 x z
          have c := ltT_trans a b
          rw [ltT_irr] at c
          cases c
    subst e
    congr 1
    refine ris_eq l2 m2 fun z => ?_
    constructor
    · intro hz
      rcases List.mem_cons.mp ((h z).mp (List.mem_cons_of_mem _ hz)) with q | q
      · exact absurd q.symm (ltT_ne (l1 z hz))
      · exact q
    · intro hz
      rcases List.mem_cons.mp ((h z).mpr (List.mem_cons_of_mem _ hz)) with q | q
      · exact absurd q.symm (ltT_ne (m1 z hz))
      · exact q
theorem ris_of_sorted : ∀ {l : List Str}, sortedS l = true → l.Nodup → RisT l := by
  have go : ∀ (l : List Str) (p : Str), risingS p l = true → (p :: l).Nodup → RisT (p :: l) := by
    intro l
    induction l with
    | nil => exact fun p _ _ => List.pairwise_singleton _ _
    | cons x r ih =>
      intro p h nd
      have h' : (!ltCps x.cps.toList p.cps.toList) = true ∧ risingS x r = true := by simpa [risingS] using h
      obtain ⟨n1, n2⟩ := List.nodup_cons.mp nd
      have t := ih x h'.2 n2
      have px : ltT p x = true := by
        cases q : ltT p x with
        | true => rfl
        | false =>
          have q2 : ltT x p = false := by
            have := h'.1
            unfold ltT
            simpa using this
          exact absurd (ltT_tri q q2) (fun e => n1 (by rw [e]; exact List.mem_cons_self))
      refine List.pairwise_cons.mpr ⟨fun y hy => ?_, t⟩
      rcases List.mem_cons.mp hy with e | e
      · rw [e]; exact px
      · exact ltT_trans px ((List.pairwise_cons.mp t).1 y e)
  intro l h nd
  cases l with
  | nil => exact List.Pairwise.nil
  | cons x r => exact go r x h nd
theorem sorted_asc {ys zs : List Str} (h : sortedS ys = true) (nd : ys.Nodup) (hm : ∀ y, y ∈ ys ↔ y ∈ zs) : ys = ascT zs :=
  ris_eq (ris_of_sorted h nd) ris_ascT fun y => (hm y).trans mem_ascT.symm
theorem ascT_len (l : List Str) : (ascT l).length ≤ l.length := by
  have h : ∀ (x : Str) (m : List Str), (insT x m).length ≤ m.length + 1 := by
    intro x m
    induction m with
    | nil => exact Nat.le_refl _
    | cons y r ih =>
      unfold insT
      split
      · exact Nat.le_refl _
      · split
        · exact Nat.le_succ _
        · simp only [List.length_cons]
          omega
  induction l with
  | nil => exact Nat.le_refl _
  | cons x r ih =>
    have := h x (ascT r)
    show (insT x (ascT r)).length ≤ _
    simp only [List.length_cons]
    omega
/-! ### sorted({text for x in ..}) over data -/
section
variable {M : Mode} {δ : Ds} {ta tb te tx : TE} {tt : TT} {d : Dt}
/-- M with an object at D that is being filled -/
def Mode.keep (M : Mode) (D : Addr) (o : HO) : Mode := ⟨M.K, D :: M.S, fun H => M.J H ∧ H D = some o⟩
theorem Mode.keep_sub {M : Mode} {D : Addr} {o : HO} (ok : M.Ok) (hD : D ∉ M.S) : M.Sub (M.keep D o) where
  k := rfl
  ok := ⟨fun e j => ⟨ok.ex e j.1, e _ _ j.2⟩, fun j b hb => by
    rcases List.mem_cons.mp hb with z | z
    · rw [z, j.2]
      exact fun q => nomatch q
    · exact ok.tr j.1 b z, fun {H H' E} j h j' x => by
    have ne : D ≠ E := fun z => by
      rw [← z, j.2] at h
      cases h
    exact ⟨ok.mu j.1 h j'.1 x, by rw [upd_ne ne]; exact j'.2⟩⟩
  s := fun b hb => List.mem_cons_of_mem _ hb
  j := fun h => h.1
  st := fun h1 h2 e => ⟨h2, (cut_some (e D _ (by rw [cut_out hD]; exact h1.2))).1⟩
theorem ed_sortedSet {w : World} {wi : TI} {g : TG} {vs : List Nat} {items : List Dt} (F : Dt → Str) (hi : EvW M wi δ items) (hz : items.length ≤ 4000)
    (hs : ∀ (i : Nat) d, items[i]? = some d → ∃ δ2 js, GD M g d (wipeD δ vs) δ2 js ∧ (∀ j ∈ js, j ∈ vs) ∧ EvD M te δ2 (.str (F d))) :
    EvD M (tCB (rSortedT w) (tCons (tScT w wi g tYes te vs) tNil)) δ (.lst ((ascT (items.map F)).map Dt.str)) := fun N n σ H s Q q =>
  hi N n σ H s _ fun items' J H1 ew e1 j1 T Dl hD => by
    subst ew
    have hDS : Dl ∉ N.S := n.ok.out j1 hD
    have ln : ∀ i, (dd ((items'.take i).map F)).length ≤ i := fun i => by
      have := (dd_facts ((items'.take i).map F)).2.1
      rw [List.length_map, List.length_take] at this
      omega
    refine ⟨fun i m H' => m = items'.length - i ∧ i ≤ items'.length ∧ N.J H' ∧ H' Dl = some (TSO w Dl (dd ((items'.take i).map F))) ∧ Ex (cut (Dl :: N.S) H1) (cut (Dl :: N.S) H'),
      ⟨_, rfl, Nat.zero_le _, n.ok.ex (Ex.new hD) j1, upd_same, by rw [cut_mut List.mem_cons_self]; exact Ex.refl _⟩, ?_⟩
    rintro i m H' ⟨rfl, hle, j', hset, ex'⟩
    have sb : N.Sub (N.keep Dl (TSO w Dl (dd ((items'.take i).map F)))) := Mode.keep_sub n.ok hDS
    have T' := T _ sb (cut_fresh hD)
    by_cases hlt : i < items'.length
    · refine Or.inr ⟨T'.go i H' ex' ⟨j', hset⟩ hlt, fun H2 => i + 1 ≤ items'.length ∧ N.J H2 ∧ H2 Dl = some (TSO w Dl (dd ((items'.take (i + 1)).map F))) ∧ Ex (cut (Dl :: N.S) H1) (cut (Dl :: N.S) H2),
        fun H2 h2 => ⟨items'.length - (i + 1), by omega, rfl, h2⟩, fun x H2 y => ?_⟩
      have hd' := List.getElem?_eq_getElem hlt
      obtain ⟨l2, j2, r2, _⟩ := T'.yld i H' x H2 _ ex' ⟨j', hset⟩ y hd'
      obtain ⟨δ2, js, G, hjs, he⟩ := hs i _ hd'
      have st2 : (N.keep Dl (TSO w Dl (dd ((items'.take i).map F)))).St (wipeD δ vs) (wipe σ vs) H2 := ⟨((s.1.mono e1).mono (show Ex (cut N.S H1) (cut (Dl :: N.S) H2) by rw [← cut_fresh (S := N.S) hD]; exact ex'.trans l2)).wipe vs, j2⟩
      refine G _ (n.trans sb) x (wipe σ vs) H2 _ st2 r2 fun σ3 s3 c3 => ⟨wipe_chg c3 hjs, ?_⟩
      show te σ3 H2 _
      refine he _ (n.trans sb) σ3 H2 s3 _ fun f v H4 hf l4 j4 r4 => ⟨F items'[i], dd ((items'.take i).map F), by subst hf; exact r4, j4.2, by have := ln i; unfold scanBound; omega, hlt, n.ok.mu j1 hD j4.1 _, ?_, ?_⟩
      · rw [upd_same, List.take_add_one, hd', List.map_append]
        show _ = some (TSO w Dl (dd (_ ++ [F items'[i]])))
        rw [dd_snoc]
        rfl
      · rw [cut_mut List.mem_cons_self]
        exact (ex'.trans l2).trans l4
    · have e : i = items'.length := by omega
      subst e
      refine Or.inl ⟨T'.stop H' ex' ⟨j', hset⟩, Dl, _, rfl, hset, Nat.le_trans (ln _) (by omega), fun ys p hp hso hn => ?_⟩
      have hDx := (dd_facts ((items'.take items'.length).map F))
      rw [List.take_length] at hDx
      have ey : ys = ascT (items'.map F) := sorted_asc hso (hp.nodup_iff.mpr (by rw [List.take_length]; exact hDx.1)) fun y => by
        rw [hp.mem_iff, List.take_length]
        exact hDx.2.2 y
      obtain ⟨ex, j4, r4⟩ := n.ok.newL (ds := ys.map Dt.str) j' hn (rpA_strs.mpr rfl)
      refine q _ _ _ (by rw [ey]) (e1.trans ?_) j4 r4
      refine Mode.Le.trans (M := N) (show Ex (cut N.S H1) (cut N.S H') from ?_) (N.le ex)
      rw [← cut_fresh (S := N.S) hD]
      exact ex'.trans cut_more
theorem ed_sortedSetL {w : World} {xs : List Str} (h : EvD M te δ (.lst (xs.map Dt.str))) (hz : xs.length ≤ 4000) :
    EvD M (tCB (rSortedT w) (tCons (tCB (rSetL M.K w) (tCons te tNil)) tNil)) δ (.lst ((ascT xs).map Dt.str)) := fun N n σ H s Q q =>
  h N n σ H s _ fun d v H1 p1 e1 j1 r1 => by
    subst p1
    obtain ⟨a, zs, rfl, h2, h3⟩ := r1
    rw [rpA_strs] at h3
    subst h3
    refine ⟨a, xs, rfl, sq_of (cut_le _ _ _ _ h2), by unfold scanBound; omega, fun p hp => ?_⟩
    have hDx := dd_facts xs
    have ex1 : Ex H1 (upd H1 p (TSO w p (dd xs))) := Ex.new hp
    refine ⟨p, dd xs, rfl, upd_same, by omega, fun ys p2 hpm hso hn => ?_⟩
    have ey : ys = ascT xs := sorted_asc hso (hpm.nodup_iff.mpr hDx.1) fun y => (hpm.mem_iff).trans (hDx.2.2 y)
    obtain ⟨ex, j4, r4⟩ := n.ok.newL (ds := ys.map Dt.str) (n.ok.ex ex1 j1) hn (rpA_strs.mpr rfl)
    exact q _ _ _ (by rw [ey]) (e1.trans (N.le (ex1.trans ex))) j4 r4
end
end Mc

/-! A def's promise by its body over data. -/
namespace Mc
open PySem PySem.Spec PyProof.Rows L2 Evl
/-- nothing that stands changes -/
def pureM (K : PySem.W.Frag) (S : List Addr) (H : Hp) : Mode := ⟨K, S, fun H' => Ex H H'⟩
theorem pureM_ok {K : PySem.W.Frag} {S : List Addr} {H : Hp} (h : ∀ b ∈ S, H b ≠ none) : (pureM K S H).Ok where
  ex := fun e j => Ex.trans j e
  tr := fun {H'} j b hb z => h b hb (by
    cases q : H b with
    | none => rfl
    | some o =>
      have j' : Ex H H' := j
      rw [j' b o q] at z
      cases z)
  mu := fun {H1 H2 D} j h1 j' o => Ex.mut j' (fresh_back j h1)
def startD (n : Nat) (ds : List Dt) : Ds := ds.map some ++ List.replicate (n - ds.length) none
theorem rps_none {K : PySem.W.Frag} {H : Hp} : ∀ n : Nat, RpS K H (List.replicate n none) (List.replicate n none)
  | 0 => rfl
  | n + 1 => ⟨none, List.replicate n none, rfl, fun _ e => (by cases e), rps_none n⟩
theorem rps_app {K : PySem.W.Frag} {H : Hp} {δ : Ds} {σ : L2.St} (h : RpS K H δ σ) : ∀ {ds : List Dt} {vs : List V}, RpA K H ds vs → RpS K H (ds.map some ++ δ) (vs.map some ++ σ)
  | [], _, q => by
    rw [show _ = [] from q]
    exact h
  | d :: ds, _, ⟨v, r, h1, h2, h3⟩ => by
    rw [h1]
    exact ⟨some v, r.map some ++ σ, rfl, fun d' e => ⟨v, rfl, (Option.some.inj e) ▸ h2⟩, rps_app h h3⟩
theorem rps_start {K : PySem.W.Frag} {H : Hp} {N : List Str} {ds : List Dt} {vs : List V} (h : RpA K H ds vs) : RpS K H (startD N.length ds) (L2.start N vs) := by
  unfold startD L2.start
  rw [h.length]
  exact rps_app (rps_none _) h
theorem run_pure {K : PySem.W.Frag} {S : List Addr} {H : Hp} {N : List Str} {ds : List Dt} {vs : List V} {t : TS} {D : Ends} (hS : ∀ b ∈ S, H b ≠ none) (h : RpA K (cut S H) ds vs) (r : RunS (pureM K S H) t D (startD N.length ds) H) : t D (L2.start N vs) H :=
  r (pureM_ok hS) _ _ ⟨rps_start h, Ex.refl H⟩ (Ex.refl _)
theorem run_from {M : Mode} {t : TS} {D : Ends} {δ : Ds} {B H : Hp} {σ : L2.St} (o : M.Ok) (s : M.St δ σ H) (l : M.Le B H) (r : RunS M t D δ B) : t D σ H := r o σ H s l
section
variable {M : Mode} {δ : Ds} {ta tb te tx : TE} {t u : TT} {d e f : Dt} {ds : List Dt}
theorem ed_II {g : Int → Int → Int} {i j : Int} (ha : EvD M ta δ (.int i)) (hb : EvD M tb δ (.int j)) : EvD M (tOp (rI0 fun i j => .int (g i j)) ta tb) δ (.int (g i j)) := ed_I0 ha hb fun _ => rfl
theorem ed_IB {g : Int → Int → Bool} {i j : Int} (ha : EvD M ta δ (.int i)) (hb : EvD M tb δ (.int j)) : EvD M (tOp (rI0 fun i j => .bl (g i j)) ta tb) δ (.bl (g i j)) := ed_I0 ha hb fun _ => rfl
theorem ed_CI {C : Int → Int → Prop} {g : Int → Int → Int} {i j : Int} (ha : EvD M ta δ (.int i)) (hb : EvD M tb δ (.int j)) (hc : C i j) : EvD M (tOp (rI C fun i j => .int (g i j)) ta tb) δ (.int (g i j)) := ed_I ha hb hc fun _ => rfl
theorem ed_UI {g : Int → Int} {i : Int} (ha : EvD M ta δ (.int i)) : EvD M (tUn (rU fun i => .int (g i)) ta) δ (.int (g i)) := ed_un ha (rd_U fun _ => rfl)
theorem eb_yes : EvB M tYes δ true := fun N _ _ H s _ q => q true H rfl Mode.Le.refl s.2
end
end Mc

/-! The rules with the written part named: for a comprehension's block. -/
namespace Mc
open PySem PySem.Spec PyProof.Rows L2 Evl
section
variable {X : Cx} (K : PySem.W.Frag)
theorem k_len (h : X.K = K := by rfl) : CallR X (.builtin "len") (fun xs H Q => ∃ p ys, xs = [.ref p] ∧ (SqL K H p ys ∨ SqT K H p ys) ∧ Q (.int ys.length) H) := by subst h; exact call_len_seq
theorem k_list (h : X.K = K := by rfl) : CallR X (.type "list") (fun xs H Q => ∃ p ys, xs = [.ref p] ∧ (SqL K H p ys ∨ SqT K H p ys) ∧ ∀ l, H l = none → Q (.ref l) (upd H l (.lst ys))) := by subst h; exact call_list_of
theorem k_tuple (h : X.K = K := by rfl) : CallR X (.type "tuple") (fun xs H Q => ∃ p ys, xs = [.ref p] ∧ ((SqL K H p ys ∧ ∀ l, H l = none → Q (.ref l) (upd H l (.tup ys))) ∨ (SqT K H p ys ∧ Q (.ref p) H))) := by subst h; exact call_tuple_of
theorem k_ixL (h : X.K = K := by rfl) : IxR X (rIxL K) := by subst h; exact ix_list
theorem k_ixT (h : X.K = K := by rfl) : IxR X (rIxT K) := by subst h; exact ix_tup
theorem k_slL (h : X.K = K := by rfl) : SlR X (rSlL K) := by subst h; exact sl_list
theorem k_slT (h : X.K = K := by rfl) : SlR X (rSlA K) := by subst h; exact sl_tupA
theorem k_catT (h : X.K = K := by rfl) : OpR X (binaryOp .Add) (rCatA K) := by subst h; exact op_catA
theorem k_in (h : X.K = K := by rfl) : OpR X (compareOp .In) (rIn K false) := by subst h; exact op_in_seq
theorem k_notIn (h : X.K = K := by rfl) : OpR X (compareOp .NotIn) (rIn K true) := by subst h; exact op_notIn_seq
theorem k_eqD (hu : X.A.units + 64 < cLine) (h : X.K = K := by rfl) : OpR X (compareOp .Eq) (rEqD K) := by subst h; exact op_eqD hu
theorem k_neD (hu : X.A.units + 64 < cLine) (h : X.K = K := by rfl) : OpR X (compareOp .NotEq) (rNeD K) := by subst h; exact op_neD hu
theorem k_all (hc : X.calm = true) (h : X.K = K := by rfl) : CallR X (.builtin "all") (rAll K) := by subst h; exact cr_all hc
theorem k_any (hc : X.calm = true) (h : X.K = K := by rfl) : CallR X (.builtin "any") (rAny K) := by subst h; exact cr_any hc
theorem k_sum (hc : X.calm = true) (h : X.K = K := by rfl) : CallR X (.builtin "sum") (rSum K) := by subst h; exact cr_sum hc
theorem k_sortedS (h : X.K = K := by rfl) : CallR X (.builtin "sorted") (rSortedS K) := by subst h; exact cr_sortedS
theorem k_setL (w : World) (hc : X.calm = true) (h : X.K = K := by rfl) (hw : X.w = w := by rfl) : CallR X (.type "set") (rSetL K w) := by subst h; subst hw; exact cr_setL hc
theorem k_sortedT (w : World) (hc : X.calm = true) (hw : X.w = w := by rfl) : CallR X (.builtin "sorted") (rSortedT w) := by subst hw; exact cr_sortedT hc
theorem k_repr (hg : X.A.guards = some []) (hu : X.A.units + 64 < cLine) (h : X.K = K := by rfl) : CallR X (.builtin "repr") (fun vs H Q => ∃ v d, vs = [v] ∧ (∃ a, v = .ref a) ∧ Dp K H v d ∧ d.showable = true ∧ d.hasDict = false ∧ d.depth ≤ 60 ∧ d.shown.length ≤ sizeLine ∧ Q (.str d.shown) H) := by subst h; exact cr_repr hg hu
variable {tg l e : Expr} {tl te : TE} {ta : TA}
theorem k_piL (hl : PE X l tl) (h : X.K = K := by rfl) : PI X tg l (iList K tl) := by subst h; exact pi_list hl
theorem k_piT (hl : PE X l tl) (h : X.K = K := by rfl) : PI X tg l (iTup K tl) := by subst h; exact pi_tup hl
theorem k_piQ (hl : PE X l tl) (h : X.K = K := by rfl) : PI X tg l (iSeq K tl) := by subst h; exact pi_seq hl
theorem k_piE {p pos tpos : Pos} {elts : List Expr} {kk : Nat} (hg : Gl X "enumerate") (hm : X.mg "enumerate" = none) (ha : PA X [e] ta) (h : X.K = K := by rfl) (hs : starEach [e] X.env = [(false, eval e X.env)] := by rfl) :
    PI X (.Tuple elts kk tpos) (.Call (.Name "enumerate" p) [e] [] pos) (iEnumS K ta) := by subst h; exact pi_enumS hg hm ha hs
theorem k_rev {k : Nat} {p1 p2 p3 pos : Pos} (he : PE X e te) (h : X.K = K := by rfl) : PE X (.Subscript e (.Slice none none (some (.UnaryOp .USub (.Constant (.int 1) k p1) p2)) p3) pos) (tRevL K te) := by subst h; exact pe_revL he
theorem k_gt {es : List Expr} {k : Nat} {t : TGs} {n : Nat} {pos : Pos} (hc : X.calm = true) (hh : PGs X es t) (h : X.K = K := by rfl)
    (hn : (assignEach es X.env).length = n := by rfl) (hst : (assignEach es X.env).findIdx? (·.1) = none := by rfl) : PG X (.Tuple es k pos) (gTup K n t) := by subst h; exact pg_tup hc hh hn hst
end
end Mc

/-! A law's own def: nothing is being written out (repr) where it is called. -/
namespace Mc
open PySem PySem.Spec PyProof.Rows L2 Evl
/-- FnOk for callers under which no repr is under way -/
structure FnG (P : Program) (w : World) (K : PySem.W.Frag) (mg : Str → Option Value) (base : Heap) (k : Nat) (f : Addr) (fd : FuncData) (ps : List Str) (sp : Sp) : Prop where
  len : ∀ vs H Q E, sp vs H Q E → vs.length = ps.length
  run : ∀ (A : Around) (outer : List Env) (s : Shared) (H : Hp) (args : Args) (us : List Value) (vs : List V) (Q : VK) (E : XK), A.guards = some [] → Room k A → Env0 P w K mg base A outer s H → BindsTo s fd args (ps.zip us) → Vals vs us → sp vs H Q E →
    codeAny (model P w) A (.call (.ref f) args) (CR CX0 outer P w H s Q E) s
section
variable {P : Program} {w : World} {K : PySem.W.Frag} {mg : Str → Option Value} {base : Heap}
theorem fun_okG {x qual : Str} {st : Stmt} {f : Addr} {fd : FuncData} {N ps : List Str} {k : Nat} {sp : Sp} (F : Fun K x qual st f fd) (S : FnScope N ps (defScope st)) (len : ∀ vs H Q E, sp vs H Q E → vs.length = ps.length)
    (hbody : ∀ (cdv : Value) (A : Around) (outer : List Env) (s : Shared) (H : Hp) (vs : List V) (Q : VK) (E : XK), (A.deeper (envOfC qual (defScope st) s.heap.objs.size f cdv)).guards = some [] → Room k (A.deeper (envOfC qual (defScope st) s.heap.objs.size f cdv)) → sp vs H Q E →
      ∃ t, PSs (cxOf CX0 P w K mg base N qual (defScope st) f cdv A outer s H E).nox (defBody st) t ∧ t { nx := fun _ H' => Q .non H', rt := Q } (L2.start N vs) H) : FnG P w K mg base (k + 1) f fd ps sp := by
  obtain ⟨oc, od, kV, doc, pm, an, cdv, ct, osl, rfl, lk, hcd⟩ := F.ex
  refine ⟨len, fun A outer s H args us vs Q E hgd hr e0 hb r hsp => ?_⟩
  have hlen := len _ _ _ _ hsp
  have K1 : K.In s.heap := e0.mod.kin.keeps fun b o e => (e0.bs b o e).1
  have L1 : s.heap.NoLimit := e0.mod.nolimit.keeps fun b o e => (e0.bs b o e).1
  have kinds1 : ∀ y ∈ ps.zip us, (defScope st).names.lookup y.1 = some .local ∨ ((defScope st).names.lookup y.1 = some .cell ∧ ((cellsFrom (s.heap.objs.size + 1) (defScope st).names []).lookup y.1).isSome = true) := fun ⟨n, v⟩ hy =>
    (S.par n (List.of_mem_zip hy).1).imp id fun z => ⟨z, PySem.W.cellsFrom_some _ _ _ (.inl z)⟩
  refine codeAny_call_function hr.depth (K1 _ _ lk) rfl S.co S.gen rfl (PySem.W.codeRec_of K1 hcd) (hb _ _ _ _ ?_)
  refine wpAny_newFunctionEnv_cells S.kind kinds1 fun env he s1 z => ?_
  subst he
  refine ⟨L1.keeps z.toInCall.keep, codeAny_func ?_⟩
  obtain ⟨t, ht, hq⟩ := hbody cdv A outer s H vs Q E hgd (hr.deeper _) hsp
  have I : Inv (cxOf CX0 P w K mg base N qual (defScope st) f cdv A outer s H E) [] (L2.start N vs) H s1 := inv_start S hr.hd e0 hlen r z
  refine wpAny_mono (ht.nox.run [] s1 (L2.start N vs) H _ I hq) (fun fl s2 hs => ?_) fun e s2 hs => hs
  have fin : ∀ {σ1 : L2.St} {H1 : Hp} {v : V} {u : Value}, Inv (cxOf CX0 P w K mg base N qual (defScope st) f cdv A outer s H E) [] σ1 H1 s2 → RelV v u → Q v H1 → CE outer P w H s Q u s2 :=
    fun {σ1 H1 v u} J rv q => ⟨v, H1, J.os, J.bare, J.base, J.hok, rv, q⟩
  cases fl with
  | ret u =>
    obtain ⟨v, σ1, H1, J, rv, q⟩ := hs
    exact fin J rv q
  | next =>
    obtain ⟨σ1, H1, J, q⟩ := hs
    exact fin (v := V.non) (u := Value.none) J rfl q
  | brk =>
    obtain ⟨_, _, _, q⟩ := hs
    exact q.elim
  | cont =>
    obtain ⟨_, _, _, q⟩ := hs
    exact q.elim
end
theorem law_callG {P : Program} {w : World} {K : PySem.W.Frag} {mg mb : Str → Option Value} {k : Nat} {fa a : Addr} {fd : FuncData} {x : Str} {sp : Sp} {s1 : Shared} {vs : List Value} {ns : List Int}
    (KX : K.In s1.heap) (hns : s1.heap.Ns mainGlobals mg) (hb : s1.heap.Ns builtinsNs mb) (hbb : ∀ x : Str, x ≠ "__name__" → mb x = bootBuiltins x) (hlim : s1.heap.NoLimit) (hg : s1.gens = #[])
    (ha : s1.heap.get? a = some { cls := .type "list", data := .seq vs.toArray }) (hi : IntsAre vs ns) (hl : ns.length ≤ sizeLine) (hr : Room k callerA)
    (F : ∀ base : Heap, K.In base → base.Ns mainGlobals mg → FnG P w K mg base k fa fd [x] sp) (hbind : ∀ (s : Shared) (u : Value), BindsTo s fd ⟨[u], []⟩ [(x, u)])
    (hsp : ∀ H : Hp, Only H → SqL K H a (ns.map V.int) → sp [.ref a] H (fun v _ => v = .bl true) fun _ _ _ => False) :
    codeAny (model P w) callerA (.call (.ref fa) ⟨[.ref a], []⟩) (fun r s' => r = .ok (.ret (.bool true)) ∧ OldK s1.heap s'.heap ∧ s'.os = s1.os ∧ AllBare s'.gens) s1 := by
  have rv := vals_ints hi
  have ln := hi.length
  have core : ∀ H : Hp, Only H → SqL K H a (ns.map V.int) → HOk P w H s1.heap → (∀ b, H b ≠ none → b = a) → (H a ≠ none → K.lookup a = none) →
      codeAny (model P w) callerA (.call (.ref fa) ⟨[.ref a], []⟩) (fun r s' => r = .ok (.ret (.bool true)) ∧ OldK s1.heap s'.heap ∧ s'.os = s1.os ∧ AllBare s'.gens) s1 := by
    intro H hO hS hok hA hK
    have isNone : ∀ {b : Addr}, (b = a → H a = none) → H b = none := fun {b} h => by
      cases q : H b with
      | none => rfl
      | some u =>
        have e : b = a := hA b (by rw [q]; exact fun z => by cases z)
        rw [e, h e] at q
        cases q
    have noD : ∀ {b : Addr} {o : Obj} {es : Array DictEntry} {ep : Nat}, s1.heap.get? b = some o → o.data = .dict es ep → H b = none := fun {b o es ep} e d => isNone fun z => by
      subst z
      rw [ha] at e
      cases e
      exact absurd (show Data.seq vs.toArray _ = Data.dict es ep from d) (by intro y; cases y)
    have nsK : ∀ {b : Addr} {m : Str → Option Value}, s1.heap.Ns b m → (hidT s1.heap H).Ns b m := fun {b m} ⟨o, es, ep, e, d, r⟩ => ⟨o, es, ep, hidT_get e (noD e d), d, r⟩
    have hKb : K.In (hidT s1.heap H) := fun b o e => hidT_get (KX b o e) (isNone fun z => by
      cases q : H a with
      | none => rfl
      | some u =>
        rw [z, hK (by rw [q]; exact fun y => by cases y)] at e
        cases e)
    have hM : Mod K mg (hidT s1.heap H) := ⟨hKb, nsK hns, ⟨mb, nsK hb, hbb⟩, let ⟨mc, h1, h2⟩ := hlim; ⟨mc, nsK h1, h2⟩⟩
    have e0 : Env0 P w K mg (hidT s1.heap H) callerA [] s1 H := ⟨rfl, hM, fun b o e => of_hidT e, Nat.le_of_eq (hidT_size _ _), trivial, fun b hb => absurd (show b ∈ ([] : List Addr) from hb) (by simp), hok, .of_eq hg⟩
    refine codeAny_mono ((F _ hKb (nsK hns)).run callerA [] s1 H ⟨[.ref a], []⟩ [.ref a] [.ref a] _ _ rfl hr e0 (hbind s1 (.ref a)) (.cons rfl .nil) (hsp H hO hS)) fun r s' h => ?_
    cases r with
    | error e => exact (show False from h).elim
    | ok fl =>
      cases fl with
      | next => exact (show False from h).elim
      | brk => exact (show False from h).elim
      | cont => exact (show False from h).elim
      | ret u =>
        obtain ⟨v, H', os, bare, un, hok', r', q⟩ := h
        obtain rfl : v = .bl true := q
        obtain rfl : u = Value.bool true := r'
        refine ⟨rfl, OldK.of_keep fun b o e => ?_, os, bare⟩
        cases q : H b with
        | none => exact un.keep b o e q (fun z => absurd (show b ∈ ([] : List Addr) from z) (by simp)) (by simp)
        | some u =>
          rcases hO b with z | ⟨ob, xs, z⟩
          · rw [q] at z
            cases z
          · obtain ⟨e1, _⟩ := hok b _ z
            obtain ⟨e2, _⟩ := hok' b _ (un.frzs b ob _ z)
            rw [e] at e1
            cases e1
            exact e2
  cases hk : K.lookup a with
  | some o =>
    have e := KX a o hk
    rw [ha] at e
    cases e
    exact core (fun _ => none) (fun _ => .inl rfl) (.inr ⟨_, vs.toArray, _, hk, rfl, rfl, rfl, by rw [List.size_toArray, ln]; exact hl, by simpa using rv⟩) (fun b u z => by have y : (none : Option HO) = some u := z; cases y) (fun b z => absurd rfl z) fun z => absurd rfl z
  | none =>
    refine core (fun b => if b = a then some (.frz { cls := .type "list", data := .seq vs.toArray } (.lst (ns.map V.int))) else none) (fun b => ?_) (.inl (.inr ⟨{ cls := .type "list", data := .seq vs.toArray }, if_pos rfl⟩)) (fun b u z => ?_) (fun b z => ?_) fun _ => hk
    · by_cases hba : b = a
      · exact .inr ⟨_, _, if_pos hba⟩
      · exact .inl (if_neg hba)
    · by_cases hba : b = a
      · have y := (if_pos hba).symm.trans z
        cases y
        subst hba
        exact ⟨ha, by rw [List.length_map]; exact hl, vs, _, rv, ha⟩
      · have y := (if_neg hba).symm.trans z
        cases y
    · by_cases hba : b = a
      · exact hba
      · exact absurd (if_neg hba) z
theorem walk_G {l : PySem.W.OpenLaw} {n k : Nat} {q : Program} {loose : List Str} {XP : (Str → Option Value) → Heap → Prop} {YP : World → Heap → Prop} {d : DefRec} {K : Params → PySem.W.Frag} {sp : World → Sp} {x : Str}
    (hn : l.most = some n) (hn2 : n ≤ sizeLine) (hdf : d.params.defaults = []) (hr : Room k callerA) (hY : ∀ (w : World) (h : Heap), YP w h → (K w.params).In h)
    (F : ∀ (w : World) (mg : Str → Option Value) (fa : Addr) (h : Heap), (K w.params).In h → h.Ns mainGlobals mg → mg d.name = some (.ref fa) →
      ∃ fd : FuncData, (∀ (s : Shared) (u : Value), BindsTo s fd ⟨[u], []⟩ [(x, u)]) ∧ ∀ base : Heap, (K w.params).In base → base.Ns mainGlobals mg → FnG l.prog w (K w.params) mg base k fa fd [x] (sp w))
    (hsp : ∀ (w : World) (H : Hp) (a : Addr) (ns : List Int), ns.length ≤ n → Only H → SqL (K w.params) H a (ns.map V.int) → sp w [.ref a] H (fun v _ => v = .bl true) fun _ _ _ => False) :
    PySem.W.WalkO q loose XP YP l.row.toRowW d [] (fun f vs => PySem.call f vs) := by
  refine Att.attach_call hn hdf fun w s0 s1 mg mb fa o pm cd doc a vs ns G Y ho hd hcd hmg hobj hints hlen hg => ?_
  have KX := hY w _ Y
  obtain ⟨fd, hb, hF⟩ := F w mg fa _ KX G.T.g hmg
  exact law_callG KX G.T.g G.T.b G.T.builtins G.T.nolimit hg hobj hints (Nat.le_trans hlen hn2) hr hF hb (fun H hO hS => hsp w H a ns hlen hO hS)
end Mc

/-! Data that can be compared and written out: its depth and its weight. -/
namespace Mc
open PySem PySem.Spec PyProof.Rows L2 Evl
structure Nice (B : Nat) (d : Dt) (dep wt : Nat) : Prop where
  plain : plainD d = true
  can : (pyD d).canLay0 = true
  dep : (pyD d).depth ≤ dep
  wt : (pyD d).weight ≤ wt
  sh : (pyD d).showable = true
  le : (pyD d).leavesShort B = true
theorem Nice.mono {B : Nat} {d : Dt} {a b a' b' : Nat} (h : Nice B d a b) (h1 : a ≤ a') (h2 : b ≤ b') : Nice B d a' b' := ⟨h.plain, h.can, Nat.le_trans h.dep h1, Nat.le_trans h.wt h2, h.sh, h.le⟩
theorem strOk_lt {x : Str} (h : PyData.strOk x = true) : ∀ c ∈ x.cps.toList, c < 1114112 := fun c hc => by
  unfold PyData.strOk at h
  rw [← Array.all_toList, List.all_eq_true] at h
  exact of_decide_eq_true (h c hc)
theorem nice_str {B : Nat} {x : Str} (h : PyData.strOk x = true) : Nice B (.str x) 0 x.length := by
  refine ⟨rfl, h, Nat.le_refl _, Nat.le_refl _, rfl, ?_⟩
  show (x.cps.toList.all fun c => decide (c < 16 ^ 8)) = true
  rw [List.all_eq_true]
  exact fun c hc => decide_eq_true (Nat.lt_of_lt_of_le (strOk_lt h c hc) (by decide))
theorem nice_bl {B : Nat} {b : Bool} : Nice B (.bl b) 0 0 := ⟨rfl, rfl, Nat.le_refl _, Nat.le_refl _, rfl, rfl⟩
theorem nice_non {B : Nat} : Nice B .non 0 0 := ⟨rfl, rfl, Nat.le_refl _, Nat.le_refl _, rfl, rfl⟩
theorem all_nice {B dep wt : Nat} : ∀ {ds : List Dt}, (∀ d ∈ ds, Nice B d dep wt) → plainDs ds = true ∧ PyData.canLayAll0 (pyDs ds) = true ∧ PyData.depthAll (pyDs ds) ≤ dep ∧ PyData.weightAll (pyDs ds) ≤ ds.length * (wt + 1) ∧ PyData.showableAll (pyDs ds) = true ∧ PyData.leavesShortAll B (pyDs ds) = true
  | [], _ => ⟨rfl, rfl, Nat.zero_le _, Nat.zero_le _, rfl, rfl⟩
  | d :: ds, h => by
    obtain ⟨h1, h2, h3, h4, h5, h6⟩ := all_nice (ds := ds) fun e he => h e (List.mem_cons_of_mem _ he)
    have n := h d List.mem_cons_self
    refine ⟨?_, ?_, ?_, ?_, ?_, ?_⟩
    · show (plainD d && plainDs ds) = true
      rw [n.plain, h1]; rfl
    · show (PyData.canLay0 (pyD d) && PyData.canLayAll0 (pyDs ds)) = true
      rw [n.can, h2]; rfl
    · show max (PyData.depth (pyD d)) (PyData.depthAll (pyDs ds)) ≤ dep
      have := n.dep
      omega
    · show PyData.weight (pyD d) + 1 + PyData.weightAll (pyDs ds) ≤ (ds.length + 1) * (wt + 1)
      have := n.wt
      rw [Nat.add_mul]
      omega
    · show (PyData.showable (pyD d) && PyData.showableAll (pyDs ds)) = true
      rw [n.sh, h5]; rfl
    · show (PyData.leavesShort B (pyD d) && PyData.leavesShortAll B (pyDs ds)) = true
      rw [n.le, h6]; rfl
theorem nice_tup {B dep wt : Nat} {ds : List Dt} (h : ∀ d ∈ ds, Nice B d dep wt) : Nice B (.tup ds) (dep + 1) (ds.length * (wt + 1)) := by
  obtain ⟨h1, h2, h3, h4, h5, h6⟩ := all_nice h
  exact ⟨h1, h2, Nat.succ_le_succ h3, h4, h5, h6⟩
theorem nice_lst {B dep wt : Nat} {ds : List Dt} (h : ∀ d ∈ ds, Nice B d dep wt) : Nice B (.lst ds) (dep + 1) (ds.length * (wt + 1)) := by
  obtain ⟨h1, h2, h3, h4, h5, h6⟩ := all_nice h
  exact ⟨h1, h2, Nat.succ_le_succ h3, h4, h5, h6⟩
theorem Nice.shaped {B : Nat} {d : Dt} {a b : Nat} (h : Nice B d a b) (ha : a ≤ 64) : SeqAt.shaped (pyD d) = true := by
  unfold SeqAt.shaped
  rw [h.can, Bool.true_and]
  exact decide_eq_true (Nat.le_trans h.dep ha)
theorem Nice.shown {B : Nat} {d : Dt} {a b : Nat} (h : Nice B d a b) (hB : 8 ≤ B) (hw : (B + 2) * b + B ≤ 16000000) : (pyD d).shown.length ≤ sizeLine := by
  have h1 := PyData.shown_le B hB (pyD d) h.le
  have h2 : (B + 2) * (pyD d).weight ≤ (B + 2) * b := Nat.mul_le_mul_left _ h.wt
  rw [sizeLine_eq]
  omega
section
variable {M : Mode} {δ : Ds} {ta tb te tx : TE} {d e : Dt} {B a b a' b' : Nat}
theorem ed_eqD (ha : EvD M ta δ d) (hb : EvD M tb δ e) (n1 : Nice B d a b) (n2 : Nice B e a' b') (h1 : a ≤ 64 := by decide) (h2 : a' ≤ 64 := by decide) : EvD M (tOp (rEqD M.K) ta tb) δ (.bl (PyData.eqv (pyD d) (pyD e))) :=
  ed_op ha hb (rd_eqD n1.plain n2.plain (n1.shaped h1) (n2.shaped h2))
theorem ed_neD (ha : EvD M ta δ d) (hb : EvD M tb δ e) (n1 : Nice B d a b) (n2 : Nice B e a' b') (h1 : a ≤ 64 := by decide) (h2 : a' ≤ 64 := by decide) : EvD M (tOp (rNeD M.K) ta tb) δ (.bl (!PyData.eqv (pyD d) (pyD e))) :=
  ed_op ha hb (rd_neD n1.plain n2.plain (n1.shaped h1) (n2.shaped h2))
/-- equal data -/
theorem ed_neSame (ha : EvD M ta δ d) (hb : EvD M tb δ d) (n1 : Nice B d a b) (h1 : a ≤ 64 := by decide) : EvD M (tOp (rNeD M.K) ta tb) δ (.bl false) :=
  ed_is (ed_neD ha hb n1 n1 h1 h1) (by rw [SeqAt.eqv_refl _ n1.can]; rfl)
theorem ed_eqSame (ha : EvD M ta δ d) (hb : EvD M tb δ d) (n1 : Nice B d a b) (h1 : a ≤ 64 := by decide) : EvD M (tOp (rEqD M.K) ta tb) δ (.bl true) :=
  ed_is (ed_eqD ha hb n1 n1 h1 h1) (by rw [SeqAt.eqv_refl _ n1.can])
theorem ed_repr {ta : TA} (h : EvAs M ta δ [d]) (hs : (∃ ds, d = .lst ds) ∨ ∃ ds, d = .tup ds) (n1 : Nice B d a b) (hB : 8 ≤ B) (hw : (B + 2) * b + B ≤ 16000000) (h1 : a ≤ 60 := by decide) :
    EvD M (tCB (fun vs H Q => ∃ v d, vs = [v] ∧ (∃ a, v = .ref a) ∧ Dp M.K H v d ∧ d.showable = true ∧ d.hasDict = false ∧ d.depth ≤ 60 ∧ d.shown.length ≤ sizeLine ∧ Q (.str d.shown) H) ta) δ (.str (pyD d).shown) :=
  ed_cb h (rc_repr n1.plain hs n1.sh (PyData.hasDict_of_canLay _ n1.can) (Nat.le_trans n1.dep h1) (n1.shown hB hw))
end
end Mc

namespace Mc
open PySem PySem.Spec PyProof.Rows L2 Evl
def topS (i : Nat) : Stmt := PySem.Challenge.pw_mostcrowds_k02_kinds.main.body.getD i (.Pass ⟨0, 0, 0, 0⟩)
abbrev s_ascending : Stmt := topS 1
abbrev N_ascending : List Str := ["names", "name"]
theorem sc_ascending : FnScope N_ascending ["names"] (defScope s_ascending) := ⟨rfl, rfl, rfl, by decide +kernel, rfl, by decide +kernel, by decide +kernel⟩
abbrev s_kind_at : Stmt := topS 2
abbrev N_kind_at : List Str := ["names", "number", "at", "name"]
theorem sc_kind_at : FnScope N_kind_at ["names", "number"] (defScope s_kind_at) := ⟨rfl, rfl, rfl, by decide +kernel, rfl, by decide +kernel, by decide +kernel⟩
abbrev s_kinds : Stmt := topS 3
abbrev N_kinds : List Str := ["names", "known", "number"]
theorem sc_kinds : FnScope N_kinds ["names"] (defScope s_kinds) := ⟨rfl, rfl, rfl, by decide +kernel, rfl, by decide +kernel, by decide +kernel⟩
local macro_rules | `(tactic| walk_at "ev") => `(tactic| repeat' (first | exact ed_var rfl | exact ed_int | exact ed_str | exact ed_bl | exact ed_non | exact ea_nil | refine ea_cons ?_ ?_ | refine ed_II ?_ ?_ | refine ed_IB ?_ ?_ | refine ed_CI ?_ ?_ ?_ | refine ed_UI ?_ | refine eb_test ?_ | refine ed_eq ?_ ?_ ?_ | refine ed_ne ?_ ?_ ?_ | refine ed_cb ?_ rc_strS | refine ed_cb ?_ rc_int | refine ed_cb ?_ (rc_len ?_) | refine ed_cb ?_ (rc_list ?_) | refine ed_cb ?_ (rc_tuple ?_)))

/-! ### what these defs give -/
def strsOf (d : Dt) (xs : List Str) : Prop := seqD d = some (xs.map Dt.str)
def R_asc (ds : List Dt) (d : Dt) : Prop := ∃ c xs, ds = [c] ∧ strsOf c xs ∧ xs.length ≤ 4000 ∧ d = .tup ((ascT xs).map Dt.str)
def bitN (n : Int) (i : Nat) : Bool := decide (Builtin.bitAnd (n / 2 ^ i) 1 = 1)
def kindAt (xs : List Str) (n : Int) : List Str := ((xs.zip (List.range xs.length)).filter fun p => bitN n p.2).map (·.1)
def R_kat (ds : List Dt) (d : Dt) : Prop := ∃ xs n, ds = [.tup (xs.map Dt.str), .int n] ∧ xs.length ≤ 4000 ∧ d = .tup ((kindAt xs n).map Dt.str)
def kindsD (xs : List Str) : Dt := .tup ((List.range (2 ^ (ascT xs).length)).map fun (n : Nat) => .tup ((kindAt (ascT xs) (n : Int)).map Dt.str))
def R_kinds (ds : List Dt) (d : Dt) : Prop := ∃ c xs, ds = [c] ∧ strsOf c xs ∧ xs.length ≤ 15 ∧ d = kindsD xs
theorem seqD_strs_unique {c : Dt} {xs ys : List Str} (h : strsOf c xs) (h' : strsOf c ys) : xs = ys := by
  have e : xs.map Dt.str = ys.map Dt.str := Option.some.inj (h.symm.trans h')
  have inj : ∀ {a b : List Str}, a.map Dt.str = b.map Dt.str → a = b := by
    intro a
    induction a with
    | nil => intro b q; cases b with | nil => rfl | cons _ _ => cases q
    | cons x r ih =>
      intro b q
      cases b with
      | nil => cases q
      | cons y s =>
        injection q with q1 q2
        injection q1 with q1
        rw [q1, ih q2]
  exact inj e
theorem enumD_strs (xs : List Str) : enumD (xs.map Dt.str) = (xs.zip (List.range xs.length)).map fun p => Dt.tup [.int (p.2 : Nat), .str p.1] := by
  unfold enumD
  rw [List.length_map, List.zip, List.map_zipWith, List.zipWith_map_right, List.zipWith_comm]
section
variable {P : Program} {w : World} {K : PySem.W.Frag} {mg : Str → Option Value} {base : Heap}
theorem ok_ascending {f : Addr} {fd : FuncData} (F : Fun K "ascending" "ascending" s_ascending f fd) (m_tuple : mg "tuple" = none) (m_sorted : mg "sorted" = none) (m_str : mg "str" = none) : FnOk P w K mg base CX0 1 f fd ["names"] (spR K 1 R_asc) := by
  refine F.ok sc_ascending (fun vs H Q E h => spR_len h) (fun cdv A outer s H vs Q E hr h => ?_)
  obtain ⟨S, ds, hS, hl, hA, ⟨d0, c, xs, rfl, hc, hx, rfl⟩, q⟩ := h
  refine ⟨_, (pss_one (ps_ret (pe_callTy call_tuple_of (by rfl) m_tuple (by decide +kernel) (pa_cons (pe_callB (cr_sortedT rfl) (by rfl) m_sorted (by decide +kernel) (pa_cons (pe_scT (own := [("name", 1)]) rfl sc_ascending.nd (pi_seq (pv 0)) (blkOk_by (own := [("name", 1)]) (N := N_ascending) (sc := defScope s_ascending) (by decide +kernel)) (fun _ _ _ _ _ => (pg_name (i := 1) sc_ascending.nd rfl (Or.inl rfl))) (fun _ _ _ _ _ => pts_nil) (fun _ _ _ _ _ => (pe_callTy SkE.call_str_str (by rfl) m_str (by decide +kernel) (pa_cons (pv 1) pa_nil)))) pa_nil)) pa_nil)))), run_pure hS hA ?_⟩
  refine q_ret (d := .tup ((ascT xs).map Dt.str)) (ed_cb (ea_cons (ed_sortedSet (fun d => match d with | .str x => x | _ => Str.empty) (ew_seq (ed_var rfl) hc) (by rw [List.length_map]; exact hx) fun i d hd => ?_) ea_nil) (rc_tuple ?_)) fun v H' j l r => q _ v H' ⟨c, xs, rfl, hc, hx, rfl⟩ j r
  · rw [List.getElem?_map] at hd
    obtain ⟨x, _, rfl⟩ := Option.map_eq_some_iff.mp hd
    exact ⟨_, _, gd_name, by simp, ed_cb (ea_cons (ed_var rfl) ea_nil) rc_strS⟩
  · rw [List.map_map]
    show some (List.map Dt.str (ascT (xs.map id))) = _
    rw [List.map_id]

def pairI : Dt → Int
  | .tup [.int i, _] => i
  | _ => 0
def pairS : Dt → Dt
  | .tup [_, d] => d
  | _ => .non
theorem ok_kind_at {f : Addr} {fd : FuncData} (F : Fun K "kind_at" "kind_at" s_kind_at f fd) (m_tuple : mg "tuple" = none) (m_enumerate : mg "enumerate" = none) : FnOk P w K mg base CX0 1 f fd ["names", "number"] (spR K 2 R_kat) := by
  refine F.ok sc_kind_at (fun vs H Q E h => spR_len h) (fun cdv A outer s H vs Q E hr h => ?_)
  obtain ⟨S, ds, hS, hl, hA, ⟨d0, xs, n, rfl, hx, rfl⟩, q⟩ := h
  refine ⟨_, (pss_one (ps_ret (pe_callTy call_tuple_of (by rfl) m_tuple (by decide +kernel) (pa_cons (pe_lc (own := [("at", 2), ("name", 3)]) (g := gTup K 2 (gCons (gName 2) (gCons (gName 3) gNil))) rfl sc_kind_at.nd (pi_enumS rfl m_enumerate (pa_cons (pv 0) pa_nil)) (blkOk_by (own := [("at", 2), ("name", 3)]) (N := N_kind_at) (sc := defScope s_kind_at) (by decide +kernel)) (fun _ _ _ _ _ => (pg_tup rfl (pgs_cons (pg_name (i := 2) sc_kind_at.nd rfl (Or.inl rfl)) (pgs_cons (pg_name (i := 3) sc_kind_at.nd rfl (Or.inl rfl)) pgs_nil)))) (fun _ _ _ _ _ => pts_one (pt_cmpR op_eq (pe_op op_and (pe_op op_shr (pv 1) (pv 2)) pe_int) pe_int (nomark _))) (fun _ _ _ _ _ => (pv 3))) pa_nil)))), run_pure hS hA ?_⟩
  refine q_ret (d := .tup ((kindAt xs n).map Dt.str)) (ed_cb (ea_cons (ed_lc (fun d => bitN n (pairI d).toNat) pairS (ew_enum (ea_cons (ed_var rfl) ea_nil) rfl) ?_ fun i d hd => ?_) ea_nil) (rc_tuple ?_)) fun v H' j l r => q _ v H' ⟨xs, n, rfl, hx, rfl⟩ j r
  · rw [enumD_len, List.length_map]
    omega
  · obtain ⟨e, he, rfl, hi⟩ := enumD_get hd
    refine ⟨_, _, gd_tup (gds_cons gd_name (gds_cons gd_name gds_nil)), by simp, ?_, fun _ => ed_var rfl⟩
    refine eb_is (eb_test (ed_eq (ed_II (ed_CI (ed_var rfl) (ed_var rfl) (Int.natCast_nonneg i)) ed_int) ed_int rfl)) ?_
    rfl
  · rw [enumD_strs, List.filter_map, List.map_map]
    show some _ = some _
    unfold kindAt
    rw [List.map_map]
    rfl
theorem ok_kinds {f fA fB : Addr} {fd fdA fdB : FuncData} (F : Fun K "kinds" "kinds" s_kinds f fd) (F_ascending : Fun K "ascending" "ascending" s_ascending fA fdA) (F_kind_at : Fun K "kind_at" "kind_at" s_kind_at fB fdB)
    (b_ascending : Binds K fdA ["names"] []) (b_kind_at : Binds K fdB ["names", "number"] []) (g_ascending : mg "ascending" = some (.ref fA)) (g_kind_at : mg "kind_at" = some (.ref fB))
    (m_tuple : mg "tuple" = none) (m_sorted : mg "sorted" = none) (m_str : mg "str" = none) (m_enumerate : mg "enumerate" = none) (m_range : mg "range" = none) (m_len : mg "len" = none) : FnOk P w K mg base CX0 2 f fd ["names"] (spR K 1 R_kinds) := by
  have G_ascending : FnOk P w K mg base CX0 1 fA fdA ["names"] (spR K 1 R_asc) := ok_ascending F_ascending m_tuple m_sorted m_str
  have G_kind_at : FnOk P w K mg base CX0 1 fB fdB ["names", "number"] (spR K 2 R_kat) := ok_kind_at F_kind_at m_tuple m_enumerate
  refine F.ok sc_kinds (fun vs H Q E h => spR_len h) (fun cdv A outer s H vs Q E hr h => ?_)
  obtain ⟨S, ds, hS, hl, hA, ⟨d0, c, xs, rfl, hc, hx, rfl⟩, q⟩ := h
  refine ⟨_, (pss_cons (ps_set (i := 1) sc_kinds.nd rfl (Or.inr rfl) (pe_call G_ascending (hr.mono (by decide)) (by rfl) g_ascending F_ascending.kp b_ascending .nil pass0 (pa_cons (pv 0) pa_nil)))
      (pss_one (ps_ret (pe_callTy call_tuple_of (by rfl) m_tuple (by decide +kernel) (pa_cons (pe_lc (own := [("number", 2)]) rfl sc_kinds.nd (pi_range1 rfl m_range (pa_cons (pe_op op_shl pe_int (pe_callB call_len_seq (by rfl) m_len PySem.boot_len (pa_cons (pv 1) pa_nil))) pa_nil)) (blkOk_by (own := [("number", 2)]) (N := N_kinds) (sc := defScope s_kinds) (by decide +kernel)) (fun _ _ _ _ _ => (pg_name (i := 2) sc_kinds.nd rfl (Or.inl rfl))) (fun _ _ _ _ _ => pts_nil) (fun _ _ _ _ _ => (pe_call G_kind_at (hr.mono (by decide)) (by rfl) g_kind_at F_kind_at.kp b_kind_at .nil pass0 (pa_cons (pv 1) (pa_cons (pv 2) pa_nil))))) pa_nil))))), run_pure hS hA ?_⟩
  refine q_asg (d := .tup ((ascT xs).map Dt.str)) (ed_call (ea_cons (ed_var rfl) ea_nil) rfl ⟨c, xs, rfl, hc, by omega, rfl⟩ ?_) ?_
  · rintro d ⟨c', ys, e, hc', _, rfl⟩
    cases e
    rw [seqD_strs_unique hc hc']
  have hk : (ascT xs).length ≤ 15 := Nat.le_trans (ascT_len xs) hx
  have hp : (2 : Int) ^ (ascT xs).length ≤ 2 ^ 15 := by
    have : (2 : Nat) ^ (ascT xs).length ≤ 2 ^ 15 := Nat.pow_le_pow_right (by decide) hk
    exact_mod_cast this
  have ev : ∀ (k : Nat), ((1 : Int) * 2 ^ ((k : Int)).toNat).toNat = 2 ^ k := by
    intro k
    rw [Int.one_mul, Int.toNat_natCast]
    exact Int.toNat_natCast (2 ^ k) ▸ (by norm_cast)
  refine q_ret (d := kindsD xs) (ed_cb (ea_cons (ed_lc (fun _ => true) (fun d => match d with | .int n => .tup ((kindAt (ascT xs) n).map Dt.str) | _ => .non) (ew_range1 (ea_cons (ed_CI (C := CPow) ed_int (ed_cb (ea_cons (ed_var rfl) ea_nil) (rc_len rfl)) ?_) ea_nil) ?_ ?_) ?_ fun i d hd => ?_) ea_nil) (rc_tuple ?_)) fun v H' j l r => q _ v H' ⟨c, xs, rfl, hc, hx, rfl⟩ j r
  · exact ⟨by omega, by simp only [List.length_map]; omega, by decide⟩
  · rw [List.length_map, Int.one_mul, Int.toNat_natCast]
    omega
  · rw [List.length_map, Int.one_mul, Int.toNat_natCast]
    have : (0 : Int) ≤ 2 ^ (ascT xs).length := Int.pow_nonneg (by decide)
    omega
  · rw [rangeD_len, List.length_map, ev]
    have : (2 : Nat) ^ (ascT xs).length ≤ 2 ^ 15 := Nat.pow_le_pow_right (by decide) hk
    omega
  · obtain ⟨rfl, hi⟩ := rangeD_get hd
    refine ⟨_, _, gd_name, by simp, eb_yes, fun _ => ?_⟩
    refine ed_call (ea_cons (ed_var rfl) (ea_cons (ed_var rfl) ea_nil)) rfl ⟨ascT xs, _, rfl, by omega, rfl⟩ ?_
    rintro d ⟨ys, m, e, _, rfl⟩
    injection e with e1 e2
    injection e1 with e1
    injection e2 with e2 _
    injection e2 with e2
    rw [← e2, seqD_strs_unique (c := .lst (ys.map Dt.str)) rfl (show seqD (.lst (ys.map Dt.str)) = some ((ascT xs).map Dt.str) by rw [← e1]; rfl)]
  · rw [List.length_map, ev, List.filter_eq_self.mpr (fun _ _ => rfl)]
    show some _ = some _
    unfold rangeD
    rw [List.map_map]
    congr 1
    refine List.map_congr_left fun n _ => ?_
    show Dt.tup ((kindAt (ascT xs) (0 + (n : Int))).map Dt.str) = _
    rw [Int.zero_add]
end
end Mc

namespace Mc
open PySem PySem.Spec PyProof.Rows L2 Evl
abbrev s_ldraw : Stmt := topS 6
abbrev N_ldraw : List Str := ["_law_deal", "_law_many", "_law_great", "_law_cell"]
theorem sc_ldraw : FnScope N_ldraw ["_law_deal", "_law_many"] (defScope s_ldraw) := ⟨rfl, rfl, rfl, by decide +kernel, rfl, by decide +kernel, by decide +kernel⟩

/-! ### the deal: a dict at a, its list at g -/
def dealKv (g : Addr) (st : Int) : List (Key × V) := [(Sum.inr "great", .ref g), (Sum.inr "stirred", .int st)]
structure DealAt (H : Hp) (a g : Addr) (ns : List Int) (st : Int) : Prop where
  at_ : H a = some (.dK (dealKv g st))
  lst : H g = some (.lst (ns.map V.int))
  nn : ∀ n ∈ ns, 0 ≤ n
  few : ns.length ≤ 100
  s0 : 0 ≤ st
  s1 : st < 2147483648
def Deal (H : Hp) (a g : Addr) : Prop := ∃ ns st, DealAt H a g ns st
theorem DealAt.ne {H : Hp} {a g : Addr} {ns : List Int} {st : Int} (h : DealAt H a g ns st) : a ≠ g := ne_of h.at_ h.lst (by intro z; cases z)
theorem DealAt.ex {H H' : Hp} {a g : Addr} {ns : List Int} {st : Int} (h : DealAt H a g ns st) (e : Ex H H') : DealAt H' a g ns st := ⟨e _ _ h.at_, e _ _ h.lst, h.nn, h.few, h.s0, h.s1⟩
theorem DealAt.put {H : Hp} {a g : Addr} {ns ms : List Int} {st : Int} (h : DealAt H a g ns st) (h1 : ∀ n ∈ ms, 0 ≤ n) (h2 : ms.length ≤ 100) : DealAt (upd H g (.lst (ms.map V.int))) a g ms st :=
  ⟨by rw [upd_ne h.ne]; exact h.at_, upd_same, h1, h2, h.s0, h.s1⟩
theorem DealAt.stir {H : Hp} {a g : Addr} {ns : List Int} {st st' : Int} (h : DealAt H a g ns st) (h1 : 0 ≤ st') (h2 : st' < 2147483648) : DealAt (upd H a (.dK (dealKv g st'))) a g ns st' :=
  ⟨upd_same, by rw [upd_ne h.ne.symm]; exact h.lst, h.nn, h.few, h1, h2⟩
/-- one draw: some number below many; but for the deal all stays -/
def spDraw : Sp := fun vs H Q _ => ∃ (a g : Addr) (m : Int), vs = [.ref a, .int m] ∧ 0 < m ∧ m < 1000000 ∧ Deal H a g ∧ ∀ n H', 0 ≤ n → n < m → Deal H' a g → Ex (cut [a, g] H) (cut [a, g] H') → Q (.int n) H'
section
variable {K : PySem.W.Frag} {H H0 : Hp} {a g : Addr} {ns : List Int} {st : Int} {σ : L2.St}
theorem ints_py : ∀ (ns : List Int), pyDs (ns.map Dt.int) = ns.map PyData.int
  | [] => rfl
  | n :: r => by
    show PyData.int n :: pyDs (r.map Dt.int) = _
    rw [ints_py r]
    rfl
theorem shaped_ints (ns : List Int) : SeqAt.shaped (.list (ns.map PyData.int)) = true := by
  have h1 : ∀ ns : List Int, PyData.canLayAll0 (ns.map PyData.int) = true := by
    intro ns
    induction ns with
    | nil => rfl
    | cons n r ih => simp [PyData.canLayAll0, PyData.canLay0, ih]
  have h2 : ∀ ns : List Int, PyData.depthAll (ns.map PyData.int) = 0 := by
    intro ns
    induction ns with
    | nil => rfl
    | cons n r ih => simp [PyData.depthAll, PyData.depth, ih]
  simp [SeqAt.shaped, PyData.canLay0, PyData.depth, h1, h2]
theorem dpAll_ints (ns : List Int) : DpAll K H (ns.map V.int) (ns.map PyData.int) := by
  induction ns with
  | nil => exact .nil
  | cons n r ih => exact .cons (.int n) ih
theorem t_ne_nil {Q : VK} (h : DealAt H a g ns st) (hs : σ[2]? = some (some (.ref g))) (q : ∀ H', Ex H H' → Q (.bl (!ns.isEmpty)) H') : tOp (rNeD K) (tVar 2) (tLst tNil) σ H Q := by
  refine ⟨.ref g, hs, Nat.zero_le _, fun p hp => ?_⟩
  have e : Ex H (upd H p (.lst [])) := Ex.new hp
  refine ⟨.list (ns.map PyData.int), .list [], .lst (sq_of (e _ _ h.lst)) (dpAll_ints ns), .lst (sq_of upd_same) .nil, shaped_ints ns, shaped_ints [], ?_⟩
  have ev : PyData.eqv (.list (ns.map PyData.int)) (.list []) = ns.isEmpty := by
    cases ns with
    | nil => rfl
    | cons n r => rfl
  rw [ev]
  exact q _ e
end
section
variable {P : Program} {w : World} {K : PySem.W.Frag} {mg : Str → Option Value} {base : Heap}
theorem fit_div {j : Int} (h0 : 0 < j) (h1 : j < 1000000) : j.natAbs.log2 < 9000 := by
  have h2 : j.natAbs < 2 ^ 20 := by omega
  have h3 : j.natAbs ≠ 0 := by omega
  have := (Nat.log2_lt h3).mpr h2
  omega
theorem great_of {st : Int} {g : Addr} : valV (dealKv g st) (Sum.inr "great") = some (.ref g) := by
  unfold dealKv valV
  rfl
theorem stir_of {st : Int} {g : Addr} : valV (dealKv g st) (Sum.inr "stirred") = some (.int st) := by
  unfold dealKv valV
  rw [List.find?_cons_of_neg (by show ¬ decide ((Sum.inr (Str.ofString "great") : Key) = Sum.inr (Str.ofString "stirred")) = true; decide)]
  rfl
theorem put_stir {st st' : Int} {g : Addr} : putK (dealKv g st) (Sum.inr "stirred") (.int st') = dealKv g st' := by
  unfold dealKv putK
  rw [if_pos (by
    rw [List.any_cons, List.any_cons]
    show (_ || (decide ((Sum.inr (Str.ofString "stirred") : Key) = Sum.inr (Str.ofString "stirred")) || _)) = true
    simp)]
  rw [List.map_cons, List.map_cons, if_neg (show ¬ ((Sum.inr (Str.ofString "great") : Key) = Sum.inr (Str.ofString "stirred")) by decide), if_pos rfl]
  rfl
theorem ok_ldraw {f : Addr} {fd : FuncData} (F : Fun K "_law_draw" "_law_draw" s_ldraw f fd) (m_int : mg "int" = none) : FnOk P w K mg base CX0 1 f fd ["_law_deal", "_law_many"] spDraw := by
  refine F.ok sc_ldraw (fun vs H Q E h => ?_) (fun cdv A outer s H vs Q E hr h => ?_)
  · obtain ⟨a, g, m, rfl, _⟩ := h
    rfl
  obtain ⟨a, g, m, rfl, m0, m1, ⟨ns, st, hd⟩, q⟩ := h
  refine ⟨_, (pss_cons (ps_set (i := 2) sc_ldraw.nd rfl (Or.inl rfl) (pe_dget (hu_of hr) (pv 0) pe_str (fun _ _ => rfl)))
      (Evl.pss_cut (ps_while PassesOwn.never (PW.pt (pw_and (pt_cmpR (op_neD hr.units) (pv 2) (pe_lst pa_nil) (nomark _)) (pw_and1 (pt_cmpR op_eq (pe_ix ix_list (pv 2) (pe_un un_neg pe_int) (fun _ _ => rfl)) pe_int (nomark _))))) (pss_one (ps_expr (pe_bm0 PySem.F.plainAttrs_list PySem.F.slot_list_pop PySem.F.type_list_pop mt_pop (pv 2)))))
      (pss_cons (ps_if (pt_cmpR (op_neD hr.units) (pv 2) (pe_lst pa_nil) (nomark _)) (pss_cons (ps_set (i := 3) sc_ldraw.nd rfl (Or.inl rfl) (pe_bm0 PySem.F.plainAttrs_list PySem.F.slot_list_pop PySem.F.type_list_pop mt_pop (pv 2)))
      (pss_cons (ps_expr (pe_bm PySem.F.plainAttrs_list PySem.F.slot_list_append PySem.F.type_list_append mt_append (pv 2) (pa_cons (pe_op op_fdivW (pv 3) (pv 1)) pa_nil)))
      (pss_one (ps_ret (pe_op op_mod (pe_callTy call_int1 (by rfl) m_int (by decide +kernel) (pa_cons (pv 3) pa_nil)) (pv 1)))))) pss_nil)
      (pss_cons (ps_dput (hu_of hr) (pv 0) pe_str (pe_op op_mod (pe_callTy call_int1 (by rfl) m_int (by decide +kernel) (pa_cons (pe_op op_add (pe_op op_mul (pe_dget (hu_of hr) (pv 0) pe_str (fun _ _ => rfl)) pe_int) pe_int) pa_nil)) pe_int) rfl)
      (pss_one (ps_ret (pe_op op_mod (pe_callTy call_int1 (by rfl) m_int (by decide +kernel) (pa_cons (pe_op op_fdivW (pe_dget (hu_of hr) (pv 0) pe_str (fun _ _ => rfl)) pe_int) pa_nil)) (pv 1)))))))), ?_⟩
  refine ⟨.ref a, rfl, a, .ref g, rfl, ?_, ?_⟩
  · rw [← great_of (st := st)]
    exact DGet.k (k := Sum.inr "great") hd.at_
  have gin : g ∈ [a, g] := by simp
  have ain : a ∈ [a, g] := by simp
  have mut1 : ∀ {H2 : Hp} {o : HO}, Ex (cut [a, g] H) (cut [a, g] H2) → Ex (cut [a, g] H) (cut [a, g] (upd H2 g o)) := fun {H2 o} e => by
    rw [cut_mut gin]
    exact e
  have getG : ∀ (ms : List Int) (n : Int), (ms ++ [n]).map V.int = ms.map V.int ++ [V.int n] := fun ms n => by rw [List.map_append]; rfl
  refine ⟨fun σ' H' => ∃ ms, σ' = [some (.ref a), some (.int m), some (.ref g), none] ∧ DealAt H' a g ms st ∧ Ex (cut [a, g] H) (cut [a, g] H'), ⟨fun k σ H1 => ∃ ms, k = ms.length ∧ σ = [some (.ref a), some (.int m), some (.ref g), none] ∧ DealAt H1 a g ms st ∧ Ex (cut [a, g] H) (cut [a, g] H1), ⟨_, ns, rfl, rfl, hd, Ex.refl _⟩, ?_⟩, ?_⟩
  · rintro k σ H1 ⟨ms, rfl, rfl, hd1, x1⟩
    refine t_ne_nil hd1 rfl fun H2 e2 => ⟨_, rfl, ?_⟩
    have hd2 := hd1.ex e2
    have x2 := x1.trans (cut_ex (S := [a, g]) e2)
    cases hms : ms.isEmpty with
    | true => exact iteF (iteF ⟨ms, rfl, hd2, x2⟩)
    | false =>
      refine iteT ?_
      obtain ⟨rs, n, rfl⟩ : ∃ rs n, ms = rs ++ [n] := by
        cases ms with
        | nil => cases hms
        | cons y r => exact ⟨_, _, (List.dropLast_concat_getLast (List.cons_ne_nil y r)).symm⟩
      have hl2 : H2 g = some (.lst (rs.map V.int ++ [V.int n])) := by rw [← getG]; exact hd2.lst
      refine ⟨.ref g, rfl, 1, rfl, g, _, -1, .int n, rfl, rfl, sq_of hl2, atI_last _ _, rfl, _, rfl, ?_⟩
      cases hn : decide (V.int n = V.int 0) with
      | false => exact iteF ⟨_, rfl, hd2, x2⟩
      | true =>
        refine iteT ⟨fun σ' H' => ∃ ms, ms.length < (rs ++ [n]).length ∧ σ' = [some (.ref a), some (.int m), some (.ref g), none] ∧ DealAt H' a g ms st ∧ Ex (cut [a, g] H) (cut [a, g] H'), fun σ' H' ⟨ms, h1, h2, h3, h4⟩ => ⟨ms.length, h1, ms, rfl, h2, h3, h4⟩, ?_⟩
        refine ⟨.ref g, rfl, Or.inl ⟨rfl, _, sq_of hl2⟩, g, _, .int n, rfl, rfl, hl2, by simp, ?_⟩
        rw [List.dropLast_concat]
        refine ⟨rs, by simp, rfl, hd2.put (fun z hz => hd2.nn z (List.mem_append_left _ hz)) ?_, mut1 x2⟩
        have := hd2.few
        rw [List.length_append] at this
        omega
  · rintro σ' H2 ⟨ms, rfl, hd2, x2⟩
    refine t_ne_nil hd2 rfl fun H3 e3 => ⟨_, rfl, ?_⟩
    have hd3 := hd2.ex e3
    have x3 := x2.trans (cut_ex (S := [a, g]) e3)
    cases hms : ms.isEmpty with
    | false =>
      refine iteT ?_
      obtain ⟨rs, n, rfl⟩ : ∃ rs n, ms = rs ++ [n] := by
        cases ms with
        | nil => cases hms
        | cons y r => exact ⟨_, _, (List.dropLast_concat_getLast (List.cons_ne_nil y r)).symm⟩
      have hl3 : H3 g = some (.lst (rs.map V.int ++ [V.int n])) := by rw [← getG]; exact hd3.lst
      refine ⟨.ref g, rfl, Or.inl ⟨rfl, _, sq_of hl3⟩, g, _, .int n, rfl, rfl, hl3, by simp, ?_⟩
      rw [List.dropLast_concat]
      have n0 : 0 ≤ n := hd3.nn n (by simp)
      refine ⟨.ref g, rfl, Or.inl ⟨rfl, _, sq_of upd_same⟩, .int n, rfl, .int m, rfl, n, m, rfl, rfl, ⟨m0, fit_div m0 m1⟩, g, _, _, rfl, rfl, upd_same, ?_, ?_⟩
      · rw [List.length_map]
        have := hd3.few
        rw [List.length_append] at this
        exact sz_lt (by simp at this; omega)
      · rw [upd_upd]
        refine ⟨.int n, rfl, Or.inl ⟨n, rfl, .int m, rfl, n, m, rfl, rfl, m0, q (n % m) _ (Int.emod_nonneg _ (by omega)) (Int.emod_lt_of_pos _ m0) ⟨rs ++ [n / m], st, ?_⟩ (mut1 x3)⟩⟩
        rw [← getG]
        refine hd3.put (fun z hz => ?_) ?_
        · rcases List.mem_append.mp hz with hz | hz
          · exact hd3.nn z (List.mem_append_left _ hz)
          · rw [List.mem_singleton.mp hz]
            exact Int.ediv_nonneg n0 (by omega)
        · have := hd3.few
          simpa using this
    | true =>
      refine iteF ?_
      have hk : ∀ b : Int, b % 2147483647 < 2147483648 := fun b => by
        have := Int.emod_lt_of_pos b (show (0 : Int) < 2147483647 by decide)
        omega
      refine ⟨.ref a, rfl, a, .int st, rfl, ?_, _, _, rfl, rfl, Or.inr ⟨by decide, by decide⟩, _, _, rfl, rfl, Or.inl ⟨_, rfl, _, _, rfl, rfl, by show (0 : Int) < 2147483647; decide, .ref a, rfl, a, _, rfl, DPut.k (k := Sum.inr "stirred") hd3.at_ (by show 2 < sizeLine; decide), ?_⟩⟩
      · rw [← stir_of (g := g)]
        exact DGet.k (k := Sum.inr "stirred") hd3.at_
      rw [put_stir]
      have hd4 := hd3.stir (Int.emod_nonneg (st * 69621 + 17) (show (2147483647 : Int) ≠ 0 by decide)) (hk _)
      refine ⟨.ref a, rfl, a, .int ((st * 69621 + 17) % 2147483647), rfl, ?_, _, _, rfl, rfl, ⟨by decide, by decide⟩, Or.inl ⟨_, rfl, .int m, rfl, _, m, rfl, rfl, m0, q _ _ (Int.emod_nonneg _ (by omega)) (Int.emod_lt_of_pos _ m0) ⟨ms, _, hd4⟩ ?_⟩⟩
      · rw [← stir_of (g := g)]
        exact DGet.k (k := Sum.inr "stirred") hd4.at_
      · rw [cut_mut ain]
        exact x3
end
end Mc

namespace Mc
open PySem PySem.Spec PyProof.Rows L2 Evl
/-! ### promises of defs that draw -/
def spG (K : PySem.W.Frag) (n : Nat) (R : List Dt → Dt → Prop) : Sp := fun vs H Q _ => ∃ (a g : Addr) (S : List Addr) (ds : List Dt) (rest : List V), vs = .ref a :: rest ∧ a ∈ S ∧ g ∈ S ∧ (∀ b ∈ S, H b ≠ none) ∧ ds.length = n ∧ RpA K (cut S H) ds rest ∧ Deal H a g ∧ (∃ d, R ds d) ∧
  ∀ d v H', R ds d → Deal H' a g → Ex (cut [a, g] H) (cut [a, g] H') → Rp K (cut S H') d v → Q v H'
theorem spG_len {K : PySem.W.Frag} {n : Nat} {R : List Dt → Dt → Prop} {vs : List V} {H : Hp} {Q : VK} {E : XK} (h : spG K n R vs H Q E) : vs.length = n + 1 := by
  obtain ⟨a, g, S, ds, rest, rfl, _, _, _, hl, hr, _⟩ := h
  rw [List.length_cons, hr.length, hl]
structure Mode.HasDeal (M : Mode) (a g : Addr) : Prop where
  ha : a ∈ M.S
  hg : g ∈ M.S
  d : ∀ {H : Hp}, M.J H → Deal H a g
  st : ∀ {H H' : Hp}, M.J H → Deal H' a g → Ex (cut [a, g] H) (cut [a, g] H') → M.J H'
theorem Mode.HasDeal.two {M : Mode} {a g : Addr} (h : M.HasDeal a g) : ∀ b ∈ [a, g], b ∈ M.S := fun b hb => by
  rcases List.mem_cons.mp hb with z | z
  · rw [z]; exact h.ha
  · rw [List.mem_singleton.mp z]; exact h.hg
theorem Mode.HasDeal.sub {M N : Mode} {a g : Addr} (h : M.HasDeal a g) (s : M.Sub N) : N.HasDeal a g :=
  ⟨s.s _ h.ha, s.s _ h.hg, fun j => h.d (s.j j), fun j d e => s.st j (h.st (s.j j) d e) (cut_exs h.two e)⟩
section
variable {M : Mode} {δ : Ds} {P : Dt → Prop} {a g : Addr}
theorem ep_callG (hd : M.HasDeal a g) {n : Nat} {R : List Dt → Dt → Prop} {E : XK} {ta : TA} {P1 : List Dt → Prop} (h : EvAP M ta δ P1)
    (hR : ∀ ds, P1 ds → ∃ es, ds = .ptr a :: es ∧ es.length = n ∧ (∃ d, R es d) ∧ ∀ d, R es d → P d) : EvP M (tCall (spG M.K n R) [] E ta) δ P := fun N nn σ H s Q q =>
  h N nn σ H s _ fun ds vs H1 p1 e1 j1 r1 => by
    obtain ⟨es, rfl, hl, hex, hP⟩ := hR ds p1
    have hN := hd.sub nn
    obtain ⟨v, r, h1, h2, h3⟩ := r1
    have hv : v = .ref a := h2
    subst hv
    rw [List.append_nil]
    refine ⟨a, g, N.S, es, r, h1, hN.ha, hN.hg, fun b hb => nn.ok.tr j1 b hb, hl, by rw [← nn.k]; exact h3, hN.d j1, hex, fun d v H2 hd2 D2 e2 r2 => ?_⟩
    refine q d v H2 (hP d hd2) (e1.trans (cut_exs hN.two e2)) (hN.st j1 D2 e2) ?_
    rw [← nn.k] at r2
    exact r2
end
def R_draw (ds : List Dt) (d : Dt) : Prop := ∃ m n, ds = [.int m] ∧ 0 < m ∧ m < 1000000 ∧ d = .int n ∧ 0 ≤ n ∧ n < m
theorem draw_imp {K : PySem.W.Frag} (vs : List V) (H : Hp) (Q : VK) (E : XK) (h : spG K 1 R_draw vs H Q E) : spDraw vs H Q E := by
  obtain ⟨a, g, S, ds, rest, rfl, ha, hg, hS, hl, hr, hD, ⟨d, m, n, rfl, m0, m1, rfl, n0, n1⟩, q⟩ := h
  obtain ⟨v, rfl, hv⟩ := one_of hr
  refine ⟨a, g, m, by rw [show v = .int m from hv], m0, m1, hD, fun k H' k0 k1 D' e => q (.int k) _ H' ⟨m, k, rfl, m0, m1, rfl, k0, k1⟩ D' e rfl⟩
/-- the mode of a def that draws -/
def dealM (K : PySem.W.Frag) (S : List Addr) (a g : Addr) (H : Hp) : Mode := ⟨K, S, fun H' => Deal H' a g ∧ Ex (cut [a, g] H) (cut [a, g] H')⟩
theorem deal_upd {H : Hp} {a g D : Addr} {o : HO} (h : Deal H a g) (h1 : D ≠ a) (h2 : D ≠ g) : Deal (upd H D o) a g := by
  obtain ⟨ns, st, d⟩ := h
  exact ⟨ns, st, by rw [upd_ne (Ne.symm h1)]; exact d.at_, by rw [upd_ne (Ne.symm h2)]; exact d.lst, d.nn, d.few, d.s0, d.s1⟩
theorem deal_some {H : Hp} {a g : Addr} (h : Deal H a g) : H a ≠ none ∧ H g ≠ none := by
  obtain ⟨ns, st, d⟩ := h
  exact ⟨fun z => (by rw [d.at_] at z; cases z), fun z => (by rw [d.lst] at z; cases z)⟩
theorem ex_upd {S : List Addr} {H H1 H' : Hp} {D : Addr} {o : HO} (e1 : Ex (cut S H) (cut S H1)) (h : H1 D = none) (e : Ex (cut S H) (cut S H')) : Ex (cut S H) (cut S (upd H' D o)) := fun b u hb => by
  have ne : b ≠ D := fun z => by
    subst z
    have q := (cut_some (e1 b u hb)).1
    rw [h] at q
    cases q
  obtain ⟨q1, q2⟩ := cut_some (e b u hb)
  rw [cut_out q2, upd_ne ne]
  exact q1
theorem dealM_ok {K : PySem.W.Frag} {S : List Addr} {a g : Addr} {H : Hp} (hS : ∀ b ∈ S, H b ≠ none) : (dealM K S a g H).Ok where
  ex := fun {H1 H2} e j => by
    obtain ⟨⟨ns, st, d⟩, x⟩ := j
    exact ⟨⟨ns, st, d.ex e⟩, x.trans (cut_ex e)⟩
  tr := fun {H1} j b hb z => by
    obtain ⟨d, x⟩ := j
    by_cases h1 : b = a
    · rw [h1] at z
      exact (deal_some d).1 z
    · by_cases h2 : b = g
      · rw [h2] at z
        exact (deal_some d).2 z
      · cases q : H b with
        | none => exact hS b hb q
        | some o =>
          have q2 := x b o (by rw [cut_out (by simp [h1, h2])]; exact q)
          rw [(cut_some q2).1] at z
          cases z
  mu := fun {H1 H2 D} j h j' o => by
    have n1 : D ≠ a := fun z => (deal_some j.1).1 (z ▸ h)
    have n2 : D ≠ g := fun z => (deal_some j.1).2 (z ▸ h)
    exact ⟨deal_upd j'.1 n1 n2, ex_upd j.2 h j'.2⟩
theorem dealM_has {K : PySem.W.Frag} {S : List Addr} {a g : Addr} {H : Hp} (ha : a ∈ S) (hg : g ∈ S) : (dealM K S a g H).HasDeal a g :=
  ⟨ha, hg, fun j => j.1, fun j d e => ⟨d, Ex.trans j.2 e⟩⟩
theorem run_deal {K : PySem.W.Frag} {S : List Addr} {a g : Addr} {H : Hp} {N : List Str} {ds : List Dt} {rest : List V} {t : TS} {D : Ends} (hS : ∀ b ∈ S, H b ≠ none) (hD : Deal H a g) (h : RpA K (cut S H) ds rest)
    (r : RunS (dealM K S a g H) t D (startD N.length (.ptr a :: ds)) H) : t D (L2.start N (.ref a :: rest)) H :=
  r (dealM_ok hS) _ _ ⟨rps_start (K := K) ⟨_, _, rfl, rfl, h⟩, hD, Ex.refl _⟩ (Ex.refl _)

/-! ### all of them in a drawn order -/
abbrev s_lshuffled : Stmt := topS 7
abbrev N_lshuffled : List Str := ["_law_deal", "_law_some", "_law_left", "_law_found", "_law_turn"]
theorem sc_lshuffled : FnScope N_lshuffled ["_law_deal", "_law_some"] (defScope s_lshuffled) := ⟨rfl, rfl, rfl, by decide +kernel, rfl, by decide +kernel, by decide +kernel⟩
def R_shuf (ds : List Dt) (d : Dt) : Prop := ∃ xs ys, ds = [.lst xs] ∧ xs.length ≤ 1000 ∧ ys.Perm xs ∧ d = .lst ys
theorem RpA.erase {K : PySem.W.Frag} {H : Hp} : ∀ {k : Nat} {ds : List Dt} {vs : List V}, RpA K H ds vs → RpA K H (ds.eraseIdx k) (vs.eraseIdx k)
  | _, [], _, h => by
    rw [show _ = [] from h]
    rfl
  | 0, d :: ds, _, ⟨v, r, h1, h2, h3⟩ => by
    rw [h1]
    exact h3
  | k + 1, d :: ds, _, ⟨v, r, h1, h2, h3⟩ => ⟨v, r.eraseIdx k, by rw [h1]; rfl, h2, RpA.erase h3⟩
theorem perm_pick {α : Type} : ∀ {l : List α} {k : Nat} {x : α}, l[k]? = some x → (x :: l.eraseIdx k).Perm l
  | [], _, _, h => by simp at h
  | y :: l, 0, x, h => by
    have e : y = x := by simpa using h
    subst e
    exact List.Perm.refl _
  | y :: l, k + 1, x, h => (List.Perm.swap y x _).trans (List.Perm.cons y (perm_pick (k := k) (by simpa using h)))
section
variable {P : Program} {w : World} {K : PySem.W.Frag} {mg : Str → Option Value} {base : Heap}
theorem ok_lshuffled {f fD : Addr} {fd fdD : FuncData} (F : Fun K "_law_shuffled" "_law_shuffled" s_lshuffled f fd) (F_ldraw : Fun K "_law_draw" "_law_draw" s_ldraw fD fdD) (b_ldraw : Binds K fdD ["_law_deal", "_law_many"] []) (g_ldraw : mg "_law_draw" = some (.ref fD))
    (m_int : mg "int" = none) (m_list : mg "list" = none) (m_range : mg "range" = none) (m_len : mg "len" = none) : FnOk P w K mg base CX0 2 f fd ["_law_deal", "_law_some"] (spG K 1 R_shuf) := by
  have G_ldraw : FnOk P w K mg base CX0 1 fD fdD ["_law_deal", "_law_many"] (spG K 1 R_draw) := (ok_ldraw F_ldraw m_int).imp draw_imp
  refine F.ok sc_lshuffled (fun vs H Q E h => spG_len h) (fun cdv A outer s H vs Q E hr h => ?_)
  obtain ⟨a, g, S, ds, rest, rfl, ha, hg, hS, hl, hA, hD, ⟨d0, xs, ys0, rfl, hx, _, rfl⟩, q⟩ := h
  refine ⟨_, (pss_cons (ps_par (by rfl) sc_lshuffled.nd (i := 2) (j := 3) rfl rfl (by decide) rfl rfl (pa_cons (pe_callTy call_list_of (by rfl) m_list (by decide +kernel) (pa_cons (pv 1) pa_nil)) (pa_cons (pe_lst pa_nil) pa_nil)) (by rfl))
      (pss_cons (ps_for PassesOwn.never rfl (pi_range1 rfl m_range (pa_cons (pe_callB call_len_seq (by rfl) m_len PySem.boot_len (pa_cons (pv 2) pa_nil)) pa_nil)) (pg_name (i := 4) sc_lshuffled.nd rfl (Or.inl rfl)) (pss_one (ps_expr (pe_bm PySem.F.plainAttrs_list PySem.F.slot_list_append PySem.F.type_list_append mt_append (pv 3) (pa_cons (pe_bm PySem.F.plainAttrs_list PySem.F.slot_list_pop PySem.F.type_list_pop mt_popAt (pv 2) (pa_cons (pe_call G_ldraw (hr.mono (by decide)) (by rfl) g_ldraw F_ldraw.kp b_ldraw .nil pass0 (pa_cons (pv 0) (pa_cons (pe_callB call_len_seq (by rfl) m_len PySem.boot_len (pa_cons (pv 2) pa_nil)) pa_nil))) pa_nil)) pa_nil)))))
      (pss_one (ps_ret (pv 3))))), ?_⟩
  obtain ⟨v, rfl, a1, vs1, rfl, ha1, hr1⟩ := one_of hA
  -- left, found = list(some), []
  refine ⟨.ref a1, rfl, a1, vs1, rfl, Or.inl (sq_of (cut_le _ _ _ _ ha1)), fun l hl0 => ⟨Nat.zero_le _, fun f1 hf0 => ⟨.ref l, .ref f1, rfl, ?_⟩⟩⟩
  have nfl : f1 ≠ l := fun z => by
    rw [z, upd_same] at hf0
    cases hf0
  have hf0' : H f1 = none := by
    rw [upd_ne nfl] at hf0
    exact hf0
  have nla : l ≠ a := fun z => (deal_some hD).1 (z ▸ hl0)
  have nlg : l ≠ g := fun z => (deal_some hD).2 (z ▸ hl0)
  have nfa : f1 ≠ a := fun z => (deal_some hD).1 (z ▸ hf0')
  have nfg : f1 ≠ g := fun z => (deal_some hD).2 (z ▸ hf0')
  have two : ∀ b ∈ [a, g], b ∈ l :: f1 :: S := fun b hb => by
    rcases List.mem_cons.mp hb with z | z
    · rw [z]; exact List.mem_cons_of_mem _ (List.mem_cons_of_mem _ ha)
    · rw [List.mem_singleton.mp z]; exact List.mem_cons_of_mem _ (List.mem_cons_of_mem _ hg)
  have lin : l ∈ l :: f1 :: S := List.mem_cons_self
  have fin : f1 ∈ l :: f1 :: S := List.mem_cons_of_mem _ List.mem_cons_self
  have lv : vs1.length = xs.length := hr1.length
  have e2 : Ex H (upd (upd H l (.lst vs1)) f1 (.lst [])) := (Ex.new hl0).trans (Ex.new hf0)
  have hl2 : upd (upd H l (.lst vs1)) f1 (.lst []) l = some (.lst vs1) := by rw [upd_ne nfl.symm]; exact upd_same
  refine ⟨.ref l, rfl, l, vs1, rfl, Or.inl (sq_of hl2), (vs1.length : Int), rfl, by omega, by omega, for_range (lo := 0) (n := ((vs1.length : Int)).toNat) (fun i σ H' => ∃ y4 ls fs vl vf, σ = [some (.ref a), some (.ref a1), some (.ref l), some (.ref f1), y4] ∧ ls.length + i = xs.length ∧ (fs ++ ls).Perm xs ∧
    RpA K (cut (l :: f1 :: S) H') ls vl ∧ RpA K (cut (l :: f1 :: S) H') fs vf ∧ H' l = some (.lst vl) ∧ H' f1 = some (.lst vf) ∧ Deal H' a g ∧ Ex (cut [a, g] H) (cut [a, g] H')) ?_ ?_ ?_⟩
  · refine ⟨none, xs, [], vs1, [], rfl, by omega, List.Perm.refl _, ?_, rfl, hl2, upd_same, ?_, cut_ex e2⟩
    · rw [cut_mut fin, cut_mut lin]
      refine hr1.mono fun b o hb => ?_
      obtain ⟨q1, q2⟩ := cut_some hb
      rw [cut_out]
      · exact q1
      · intro z
        rcases List.mem_cons.mp z with z | z
        · rw [z, hl0] at q1; cases q1
        · rcases List.mem_cons.mp z with z | z
          · rw [z, hf0'] at q1; cases q1
          · exact q2 z
    · exact deal_upd (deal_upd hD nla nlg) nfa nfg
  · rintro i σ H' hi ⟨y4, ls, fs, vl, vf, rfl, hlen, hp, rl, rf, hl', hf', D', X'⟩
    rw [Int.toNat_natCast] at hi
    have lvl : vl.length = ls.length := rl.length
    have lvf : vf.length = fs.length := rf.length
    have lp := hp.length_eq
    rw [List.length_append] at lp
    have tr : ∀ b ∈ l :: f1 :: S, H' b ≠ none := fun b hb => by
      rcases List.mem_cons.mp hb with z | hb
      · rw [z, hl']; exact fun z => by cases z
      · rcases List.mem_cons.mp hb with z | hb
        · rw [z, hf']; exact fun z => by cases z
        · exact (dealM_ok (K := K) (a := a) (g := g) hS).tr ⟨D', X'⟩ b hb
    refine ⟨.ref f1, rfl, Or.inl ⟨rfl, _, sq_of hf'⟩, .ref l, rfl, Or.inl ⟨rfl, _, sq_of hl'⟩, .ref a, rfl, .ref l, rfl, l, vl, rfl, Or.inl (sq_of hl'), a, g, l :: f1 :: S, [.int (vl.length : Int)], [.int (vl.length : Int)], rfl, two a (by simp), two g (by simp), tr, rfl, RpA.one rfl, D', ⟨.int 0, (vl.length : Int), 0, rfl, by omega, by omega, rfl, by omega, by omega⟩, ?_⟩
    rintro d v H2 ⟨m, n, em, m0, m1, rfl, n0, n1⟩ D2 X2 hv
    obtain rfl : v = .int n := hv
    injection em with em _
    injection em with em
    subst em
    have keep : ∀ {b : Addr} {o : HO}, b ≠ a → b ≠ g → H' b = some o → H2 b = some o := fun {b o} h1 h2 h3 => (cut_some (X2 b o (by rw [cut_out (by simp [h1, h2])]; exact h3))).1
    have hl2' := keep nla nlg hl'
    have hf2' := keep nfa nfg hf'
    have hk : n.toNat < vl.length := by omega
    obtain ⟨dk, hdk, hrk⟩ := (rl.mono (cut_exs two X2)).get (List.getElem?_eq_getElem hk)
    refine ⟨l, vl, n, n.toNat, _, rfl, rfl, hl2', by omega, by omega, seqIndex_of n0 n1, List.getElem?_eq_getElem hk, f1, vf, _, rfl, rfl, ?_, sz_lt (by omega), ?_⟩
    · rw [upd_ne nfl]
      exact hf2'
    refine ⟨_, ls.eraseIdx n.toNat, fs ++ [dk], vl.eraseIdx n.toNat, vf ++ [vl[n.toNat]], rfl, ?_, ?_, ?_, ?_, ?_, upd_same, deal_upd (deal_upd D2 nla nlg) nfa nfg, ?_⟩
    · rw [List.length_eraseIdx_of_lt (by omega)]
      omega
    · rw [List.append_assoc]
      exact (List.Perm.append_left fs (perm_pick hdk)).trans hp
    · rw [cut_mut fin, cut_mut lin]
      exact (rl.mono (cut_exs two X2)).erase
    · rw [cut_mut fin, cut_mut lin]
      exact (rf.mono (cut_exs two X2)).append (RpA.one hrk)
    · rw [upd_ne nfl.symm]
      exact upd_same
    · exact ex_upd (Ex.refl _) hf0' (ex_upd (Ex.refl _) hl0 (X'.trans X2))
  · rintro σ H' ⟨y4, ls, fs, vl, vf, rfl, hlen, hp, rl, rf, hl', hf', D', X'⟩
    rw [Int.toNat_natCast] at hlen
    have e0 : ls = [] := List.eq_nil_of_length_eq_zero (by omega)
    subst e0
    rw [List.append_nil] at hp
    refine ⟨.ref f1, rfl, q (.lst fs) _ H' ⟨xs, fs, rfl, hx, hp, rfl⟩ D' X' ⟨f1, vf, rfl, ?_, rf.mono (cut_sub fun b hb => List.mem_cons_of_mem _ (List.mem_cons_of_mem _ hb))⟩⟩
    rw [cut_out (fun z => hS f1 z hf0')]
    exact hf'
end
end Mc

namespace Mc
open PySem PySem.Spec PyProof.Rows L2 Evl
abbrev s_lsource : Stmt := topS 5
abbrev N_lsource : List Str := ["_law_script", "_law_base", "_law_cells", "_law_stirred", "_law_at", "_law_cell"]
theorem sc_lsource : FnScope N_lsource ["_law_script", "_law_base"] (defScope s_lsource) := ⟨rfl, rfl, rfl, by decide +kernel, rfl, by decide +kernel, by decide +kernel⟩
def spSource (K : PySem.W.Frag) : Sp := fun vs H Q _ => ∃ (p : Addr) (ns : List Int) (b : Int), vs = [.ref p, .int b] ∧ SqL K H p (ns.map V.int) ∧ ns.length ≤ 63 ∧ 0 ≤ b ∧ b ≤ 60 ∧ ∀ a g H', Ex H H' → H a = none → H g = none → Deal H' a g → Q (.ref a) H'
section
variable {M : Mode} {δ : Ds} {te : TE}
/-- a slice of ints that are read behind a reference -/
theorem ed_slPtr {p : Addr} {ns : List Int} {tl th : TO} {lo hi : Option Int} (h : EvD M te δ (.ptr p)) (hp : ∀ H, M.J H → SqL M.K H p (ns.map V.int)) (h1 : EvO M tl δ lo) (h2 : EvO M th δ hi) :
    EvP M (tSl (rSlL M.K) te tl th) δ (fun d => ∃ cs : List Int, cs.length ≤ ns.length ∧ d = .lst (cs.map Dt.int)) := fun N n σ H s Q q =>
  h N n σ H s _ fun d x H1 p1 e1 j1 r1 => h1 N n σ H1 (s.next e1 j1) _ fun l H2 p2 e2 j2 => h2 N n σ H2 ((s.next e1 j1).next e2 j2) _ fun u H3 p3 e3 j3 => by
    subst p1 p2 p3
    have ex : x = .ref p := r1
    refine ⟨p, _, ex, hp H3 (n.j j3), fun a ha => ?_⟩
    have hc : cutV (ns.map V.int) l u = ((ns.drop (HT.sIx ns.length 0 l)).take (HT.sIx ns.length ns.length u - HT.sIx ns.length 0 l)).map V.int := by
      unfold cutV
      rw [List.length_map, List.map_take, List.map_drop]
    rw [hc]
    obtain ⟨ex4, j4, r4⟩ := n.ok.newL (ds := ((ns.drop (HT.sIx ns.length 0 l)).take (HT.sIx ns.length ns.length u - HT.sIx ns.length 0 l)).map Dt.int) j3 ha (rpA_ints.mpr rfl)
    exact q _ _ _ ⟨_, by rw [List.length_take, List.length_drop]; omega, rfl⟩ (((e1.trans e2).trans e3).trans (N.le ex4)) j4 r4
end
section
variable {P : Program} {w : World} {K : PySem.W.Frag} {mg : Str → Option Value} {base : Heap}
def absF : Dt → Dt
  | .int i => .int (if i < 0 then -i else i)
  | d => d
theorem abs_map (cs : List Int) : (((cs.map Dt.int).filter fun _ => true).map absF) = (cs.map fun i => if i < 0 then -i else i).map Dt.int := by
  rw [List.filter_eq_self.mpr (fun _ _ => rfl), List.map_map, List.map_map]
  rfl
theorem great_map (cs : List Int) : (((cs.map Dt.int).filter fun d => match d with | .int i => decide (10 ^ 18 ≤ i) | _ => false).map id) = (cs.filter fun i => decide (10 ^ 18 ≤ i)).map Dt.int := by
  rw [List.map_id, List.filter_map]
  rfl
theorem ok_lsource {f : Addr} {fd : FuncData} (F : Fun K "_law_source" "_law_source" s_lsource f fd) (m_int : mg "int" = none) (m_abs : mg "abs" = none) (m_enumerate : mg "enumerate" = none) : FnOk P w K mg base CX0 1 f fd ["_law_script", "_law_base"] (spSource K) := by
  refine F.ok sc_lsource (fun vs H Q E h => ?_) (fun cdv A outer s H vs Q E hr h => ?_)
  · obtain ⟨p, ns, b, rfl, _⟩ := h
    rfl
  obtain ⟨p, ns, b, rfl, hp, hn, b0, b1, q⟩ := h
  refine ⟨_, (pss_cons (ps_setLc (i := 2) (own := [("_law_cell", 5)]) rfl sc_lsource.nd rfl rfl (sw_true rfl rfl rfl (by decide +kernel)) (g := (gName 5)) (pi_list (pe_slice sl_list (pv 0) (po_some (pv 1)) (po_some pe_int))) (blkOk_by (own := [("_law_cell", 5)]) (N := N_lsource) (sc := defScope s_lsource) (by decide +kernel)) (fun _ _ _ _ _ => (pg_name (i := 5) sc_lsource.nd rfl (Or.inl rfl))) (fun _ _ _ _ _ => pts_nil) (fun _ _ _ _ _ => (pe_callB call_abs (by rfl) m_abs (by decide +kernel) (pa_cons (pe_callTy call_int1 (by rfl) m_int (by decide +kernel) (pa_cons (pv 5) pa_nil)) pa_nil))))
      (pss_cons (ps_set (i := 3) sc_lsource.nd rfl (Or.inl rfl) (pe_op op_add pe_int (pe_op op_mul pe_int (pv 1))))
      (pss_cons (ps_for PassesOwn.never rfl (pi_enumS rfl m_enumerate (pa_cons (pv 2) pa_nil)) (pg_tup rfl (pgs_cons (pg_name (i := 4) sc_lsource.nd rfl (Or.inl rfl)) (pgs_cons (pg_name (i := 5) sc_lsource.nd rfl (Or.inl rfl)) pgs_nil))) (pss_one (ps_set (i := 3) sc_lsource.nd rfl (Or.inl rfl) (pe_op op_mod (pe_callTy call_int1 (by rfl) m_int (by decide +kernel) (pa_cons (pe_op op_add (pe_op op_mul (pe_op op_add (pe_op op_add (pv 3) (pv 4)) pe_int) pe_int) (pe_op op_mod (pe_callTy call_int1 (by rfl) m_int (by decide +kernel) (pa_cons (pv 5) pa_nil)) pe_int)) pa_nil)) pe_int))))
      (pss_one (ps_ret (pe_disp (pps_cons pe_str (pe_revL (pe_lc (own := [("_law_cell", 5)]) rfl sc_lsource.nd (g := (gName 5)) (pi_list (pv 2)) (blkOk_by (own := [("_law_cell", 5)]) (N := N_lsource) (sc := defScope s_lsource) (by decide +kernel)) (fun _ _ _ _ _ => (pg_name (i := 5) sc_lsource.nd rfl (Or.inl rfl))) (fun _ _ _ _ _ => pts_one (pt_cmpR op_ge (pv 5) (pe_op op_pow pe_int pe_int) (nomark _))) (fun _ _ _ _ _ => (pv 5)))) (pps_cons pe_str (pv 3) pps_nil)) (by rfl) (by rfl) (fun z => by cases z) (by decide))))))), ?_⟩
  refine run_pure (K := K) (S := []) (ds := [.ptr p, .int b]) (fun b hb => by cases hb) ⟨_, _, rfl, rfl, RpA.one rfl⟩ ?_
  refine p_asg (P := fun d => ∃ cs : List Int, cs.length ≤ 63 ∧ (∀ c ∈ cs, 0 ≤ c) ∧ d = .lst (cs.map Dt.int)) (ep_lc (PI := fun items => ∃ cs : List Int, cs.length ≤ 63 ∧ items = cs.map Dt.int) (ei_list (ed_slPtr (ns := ns) (ed_var rfl) (fun H' j => ex_l j hp) (eo_some (ed_var rfl)) (eo_some ed_int)) ?_) ?_) ?_
  · rintro d ⟨cs, hc, rfl⟩
    exact ⟨_, ⟨cs, by omega, rfl⟩, rfl⟩
  · rintro items ⟨cs, hc, rfl⟩
    refine ⟨fun _ => true, absF, by rw [List.length_map]; omega, ⟨cs.map fun i => if i < 0 then -i else i, by rw [List.length_map]; exact hc, ?_, by rw [abs_map]⟩, fun i d hd => ?_⟩
    · intro c hc'
      obtain ⟨z, _, rfl⟩ := List.mem_map.mp hc'
      split <;> omega
    · rw [List.getElem?_map] at hd
      obtain ⟨z, _, rfl⟩ := Option.map_eq_some_iff.mp hd
      exact ⟨_, _, gd_name, by simp, eb_yes, fun _ => ed_cb (ea_cons (ed_cb (ea_cons (ed_var rfl) ea_nil) rc_int) ea_nil) rc_abs⟩
  rintro _ ⟨cs, hc, hc0, rfl⟩
  refine q_asg (ed_II ed_int (ed_CI (C := CMul) ed_int (ed_var rfl) (Or.inl ⟨by decide, by decide⟩))) ?_
  refine q_for (I := fun _ δ => ∃ st x4 x5, δ = [some (.ptr p), some (.int b), some (.lst (cs.map Dt.int)), some (.int st), x4, x5] ∧ 0 ≤ st ∧ st < 2147483648) (ew_enum (ea_cons (ed_var rfl) ea_nil) rfl) ⟨_, none, none, rfl, by omega, by omega⟩ ?_ ?_
  · rintro B' _ i d δ1 hd ⟨st, x4, x5, rfl, s0, s1⟩
    obtain ⟨e, he, rfl, hi⟩ := enumD_get hd
    rw [List.getElem?_map] at he
    obtain ⟨z, _, rfl⟩ := Option.map_eq_some_iff.mp he
    refine ⟨_, _, gd_tup (gds_cons gd_name (gds_cons gd_name gds_nil)), ?_⟩
    refine p_asg1 (P := fun d => ∃ st, d = .int st ∧ 0 ≤ st ∧ st < 2147483648) (EvP.weak (ed_CI (C := fun _ j => 0 < j) (ed_cb (ea_cons (ed_II (ed_CI (C := CMul) (ed_II (ed_II (ed_var rfl) (ed_var rfl)) ed_int) ed_int (Or.inr ⟨by decide, by decide⟩)) (ed_CI (C := fun _ j => 0 < j) (ed_cb (ea_cons (ed_var rfl) ea_nil) rc_int) ed_int (by show (0 : Int) < _; decide))) ea_nil) rc_int) ed_int (by show (0 : Int) < _; decide)) ?_) ?_
    · rintro d rfl
      refine ⟨_, rfl, Int.emod_nonneg _ (by decide), ?_⟩
      have := Int.emod_lt_of_pos ((st + (i : Int) + 1) * 69621 + z % 2147483563) (show (0 : Int) < 2147483647 by decide)
      omega
    · rintro _ ⟨st', rfl, h0, h1⟩ σ H' s' l'
      exact ⟨_, ⟨st', _, _, rfl, h0, h1⟩, s', l'⟩
  · rintro δ1 ⟨st, x4, x5, rfl, s0, s1⟩
    intro ok σ H1 st1 l1 p1 hp1
    have jx : Ex H H1 := st1.2
    have np : p1 ∉ ([] : List Addr) := by simp
    have sb : (pureM K [] H).Sub ((pureM K [] H).keep p1 (.dK [])) := Mode.keep_sub ok np
    have ex1 : Ex H1 (upd H1 p1 (.dK [])) := Ex.new hp1
    have st2 : ((pureM K [] H).keep p1 (.dK [])).St [some (.ptr p), some (.int b), some (.lst (cs.map Dt.int)), some (.int st), x4, x5] σ (upd H1 p1 (.dK [])) := ⟨st1.1.mono (by
      show Ex (cut [] H1) (cut [p1] (upd H1 p1 (.dK [])))
      rw [cut_mut (by simp), ← cut_fresh (S := []) hp1]
      exact Ex.refl _), jx.trans ex1, upd_same⟩
    dsimp only [tPairs, tC, tRevL]
    refine ed_lc (M := pureM K [] H) (items := cs.map Dt.int) (δ := [some (.ptr p), some (.int b), some (.lst (cs.map Dt.int)), some (.int st), x4, x5]) (fun d => match d with | .int i => decide (10 ^ 18 ≤ i) | _ => false) id (ew_list (ed_var (i := 2) rfl)) (by rw [List.length_map]; omega) (fun i d hd => ?_) _ sb σ _ st2 _ fun d v H2 e2 l2 j2 r2 => ?_
    · rw [List.getElem?_map] at hd
      obtain ⟨z, _, rfl⟩ := Option.map_eq_some_iff.mp hd
      exact ⟨_, _, gd_name, by simp, eb_test (ed_IB (ed_var rfl) (ed_CI (C := CPow) ed_int ed_int ⟨by decide, by decide, by decide⟩)), fun _ => ed_var rfl⟩
    subst e2
    rw [great_map] at r2
    obtain ⟨c1, xs, rfl, h2, h3⟩ := r2
    rw [rpA_ints] at h3
    subst h3
    refine ⟨c1, _, rfl, sq_of (cut_le _ _ _ _ h2), fun g hg => ?_⟩
    have jx2 : Ex H H2 := j2.1
    obtain ⟨v3, hv3, r3⟩ := (st2.1.mono l2).get (i := 3) (d := .int st) rfl
    have ev3 : v3 = .int st := r3
    subst ev3
    refine ⟨_, hv3, by rw [upd_ne (ne_of_none j2.2 hg)]; exact j2.2, [(Sum.inr "great", .ref g), (Sum.inr "stirred", .int st)], rfl, by show 2 ≤ 15; decide, ?_⟩
    have hg0 : H g = none := fresh_back jx2 hg
    have hp0 : H p1 = none := fresh_back jx hp1
    have npg : p1 ≠ g := ne_of_none j2.2 hg
    refine q p1 g _ (Ex.mut (jx2.trans (Ex.new hg)) hp0) hp0 hg0 ⟨((cs.filter fun i => decide (10 ^ 18 ≤ i))).reverse, st, upd_same, ?_, fun n hn => ?_, ?_, s0, s1⟩
    · rw [upd_ne npg.symm, upd_same, List.map_reverse]
    · exact hc0 n (List.mem_filter.mp (List.mem_reverse.mp hn)).1
    · rw [List.length_reverse]
      exact Nat.le_trans (List.length_filter_le _ _) (by omega)
end
end Mc

namespace Mc
open PySem PySem.Spec PyProof.Rows L2 Evl
abbrev s_lnames : Stmt := topS 8
abbrev N_lnames : List Str := ["_law_deal", "_law_many", "_law_some", "_law_form", "_law_spot", "_law_letters", "_law_at"]
theorem sc_lnames : FnScope N_lnames ["_law_deal", "_law_many"] (defScope s_lnames) := ⟨rfl, rfl, rfl, by decide +kernel, rfl, by decide +kernel, by decide +kernel⟩
/-! ### names -/
def barred : List Str := ["all", "none", "at", "if", "else", "end", "say", "stop"]
def goodName (x : Str) : Bool := decide (1 ≤ x.length) && decide (x.length ≤ 4) && !barred.contains x && x.cps.toList.all fun c => decide (97 ≤ c) && decide (c ≤ 122)
def someNames : List Str := ["more", "even", "is", "do", "know", "let", "w", "sure", "undo", "row"]
def zName (i : Int) : Str := cutS "zzzz" none (some (i + 1))
def lName (s i : Int) : Str := (⟨#[97 + ((s + 11 * i) % 26).toNat]⟩ : Str) ++ cutS "wq" none (some (s % 3))
def zNames (m : Nat) : List Str := (List.range m).map fun (i : Nat) => zName (i : Int)
def lNames (s : Int) (m : Nat) : List Str := (List.range m).map fun (i : Nat) => lName s (i : Int)
theorem some_good : someNames.all goodName = true ∧ someNames.Nodup := by decide +kernel
theorem z_good : (zNames 5).all goodName = true ∧ (zNames 4).Nodup := by decide +kernel
theorem l_good : ∀ s : Fin 26, (lNames (s.val : Int) 5).all goodName = true ∧ (lNames (s.val : Int) 5).Nodup := by decide +kernel
theorem letters_at : ∀ i : Fin 26, atI (Str.ofString "abcdefghijklmnopqrstuvwxyz").cps.toList (i.val : Int) = some (97 + i.val) := by decide +kernel

/-! ### sorted texts, some of them equal -/
def leT (x y : Str) : Prop := ltT y x = false
theorem leT_anti {x y : Str} (a : leT x y) (b : leT y x) : x = y := (ltT_tri a b).symm ▸ rfl
theorem leT_trans {x y z : Str} (a : leT x y) (b : leT y z) : leT x z := by
  unfold leT at *
  cases h : ltT z x with
  | false => rfl
  | true =>
    cases h2 : ltT x y with
    | true =>
      have := ltT_trans h h2
      rw [b] at this
      cases this
    | false =>
      have e := ltT_tri h2 a
      subst e
      rw [b] at h
      cases h
theorem pw_of_sorted : ∀ {l : List Str}, sortedS l = true → l.Pairwise leT := by
  have go : ∀ (l : List Str) (p : Str), risingS p l = true → (p :: l).Pairwise leT := by
    intro l
    induction l with
    | nil => exact fun p _ => List.pairwise_singleton _ _
    | cons x r ih =>
      intro p h
      have h' : (!ltCps x.cps.toList p.cps.toList) = true ∧ risingS x r = true := by simpa [risingS] using h
      have t := ih x h'.2
      have px : leT p x := by
        have := h'.1
        unfold leT ltT
        simpa using this
      refine List.pairwise_cons.mpr ⟨fun y hy => ?_, t⟩
      rcases List.mem_cons.mp hy with e | e
      · rw [e]; exact px
      · exact leT_trans px ((List.pairwise_cons.mp t).1 y e)
  intro l h
  cases l with
  | nil => exact List.Pairwise.nil
  | cons x r => exact go r x h
theorem pw_eq : ∀ {l m : List Str}, l.Pairwise leT → m.Pairwise leT → l.Perm m → l = m
  | [], m, _, _, h => (List.Perm.nil_eq h)
  | x :: l, [], _, _, h => absurd h.length_eq (by simp)
  | x :: l, y :: m, hl, hm, h => by
    obtain ⟨l1, l2⟩ := List.pairwise_cons.mp hl
    obtain ⟨m1, m2⟩ := List.pairwise_cons.mp hm
    have e : x = y := by
      rcases List.mem_cons.mp (h.mem_iff.mp List.mem_cons_self) with z | z
      · exact z
      · rcases List.mem_cons.mp (h.mem_iff.mpr List.mem_cons_self) with z' | z'
        · exact z'.symm
        · exact leT_anti (l1 y z') (m1 x z)
    subst e
    rw [pw_eq l2 m2 (List.Perm.cons_inv h)]
/-- what stands twice stands last -/
def DupTop (xs : List Str) : Prop := ∀ ys, ys.Perm xs → sortedS ys = true → ∃ zs, ys = ascT xs ++ zs
theorem dup_nodup {xs : List Str} (h : xs.Nodup) : DupTop xs := fun ys hp hs => ⟨[], by
  rw [List.append_nil]
  exact sorted_asc hs (hp.nodup_iff.mpr h) fun y => hp.mem_iff⟩
theorem z_sorted : sortedS (zNames 5) = true ∧ ascT (zNames 5) = zNames 4 ∧ zNames 5 = zNames 4 ++ [("zzzz" : Str)] := by decide +kernel
theorem dup_z {xs : List Str} (h : xs.Perm (zNames 5)) : DupTop xs := fun ys hp hs => ⟨["zzzz"], by
  have e1 : ys = zNames 5 := pw_eq (pw_of_sorted hs) (pw_of_sorted z_sorted.1) (hp.trans h)
  have e2 : ascT xs = ascT (zNames 5) := ris_eq ris_ascT ris_ascT fun y => by rw [mem_ascT, mem_ascT, h.mem_iff]
  rw [e1, e2, z_sorted.2.1]
  exact z_sorted.2.2⟩
def R_names (ds : List Dt) (d : Dt) : Prop := ∃ (m : Nat) (xs : List Str), ds = [.int (m : Int)] ∧ m ≤ 5 ∧ xs.length = m ∧ (m ≤ 4 → xs.Nodup) ∧ xs.all goodName = true ∧ DupTop xs ∧ d = .lst (xs.map Dt.str)
theorem range_take {α : Type} (f : Nat → α) {m n : Nat} (h : m ≤ n) : (List.range m).map f = ((List.range n).map f).take m := by
  rw [← List.map_take, List.take_range, Nat.min_eq_left h]
theorem all_take {xs : List Str} {m : Nat} (h : xs.all goodName = true) : (xs.take m).all goodName = true := by
  rw [List.all_eq_true] at h ⊢
  exact fun x hx => h x (List.mem_of_mem_take hx)
theorem all_perm {xs ys : List Str} (h : xs.all goodName = true) (p : ys.Perm xs) : ys.all goodName = true := by
  rw [List.all_eq_true] at h ⊢
  exact fun x hx => h x (p.mem_iff.mp hx)
theorem strs_perm {ds : List Dt} {xs : List Str} (h : ds.Perm (xs.map Dt.str)) : ∃ ys : List Str, ds = ys.map Dt.str ∧ ys.Perm xs := by
  have f : ∀ d ∈ ds, ∃ x, d = Dt.str x := fun d hd => by
    obtain ⟨x, _, rfl⟩ := List.mem_map.mp (h.mem_iff.mp hd)
    exact ⟨x, rfl⟩
  have g : ∀ ds : List Dt, (∀ d ∈ ds, ∃ x, d = Dt.str x) → ∃ ys : List Str, ds = ys.map Dt.str := by
    intro ds
    induction ds with
    | nil => exact fun _ => ⟨[], rfl⟩
    | cons d r ih =>
      intro hh
      obtain ⟨x, rfl⟩ := hh d List.mem_cons_self
      obtain ⟨ys, rfl⟩ := ih fun e he => hh e (List.mem_cons_of_mem _ he)
      exact ⟨x :: ys, rfl⟩
  obtain ⟨ys, rfl⟩ := g ds f
  refine ⟨ys, rfl, ?_⟩
  have q := h.map (fun d => match d with | Dt.str x => x | _ => Str.empty)
  rw [List.map_map, List.map_map] at q
  have e : ∀ l : List Str, l.map ((fun d => match d with | Dt.str x => x | _ => Str.empty) ∘ Dt.str) = l := fun l => by
    show l.map id = l
    exact List.map_id l
  rw [e, e] at q
  exact q
theorem cutS_len (z : Str) (lo hi : Option Int) : (cutS z lo hi).length ≤ z.length := by
  unfold cutS Str.length
  rw [List.size_toArray, List.length_take, List.length_drop, Array.length_toList]
  omega
section
variable {P : Program} {w : World} {K : PySem.W.Frag} {mg : Str → Option Value} {base : Heap}
theorem ok_lnames {f fD fS : Addr} {fd fdD fdS : FuncData} (F : Fun K "_law_names" "_law_names" s_lnames f fd) (F_ldraw : Fun K "_law_draw" "_law_draw" s_ldraw fD fdD) (F_lshuffled : Fun K "_law_shuffled" "_law_shuffled" s_lshuffled fS fdS)
    (b_ldraw : Binds K fdD ["_law_deal", "_law_many"] []) (b_lshuffled : Binds K fdS ["_law_deal", "_law_some"] []) (g_ldraw : mg "_law_draw" = some (.ref fD)) (g_lshuffled : mg "_law_shuffled" = some (.ref fS))
    (m_int : mg "int" = none) (m_list : mg "list" = none) (m_range : mg "range" = none) (m_len : mg "len" = none) : FnOk P w K mg base CX0 3 f fd ["_law_deal", "_law_many"] (spG K 1 R_names) := by
  have G_ldraw : FnOk P w K mg base CX0 1 fD fdD ["_law_deal", "_law_many"] (spG K 1 R_draw) := (ok_ldraw F_ldraw m_int).imp draw_imp
  have G_lshuffled : FnOk P w K mg base CX0 2 fS fdS ["_law_deal", "_law_some"] (spG K 1 R_shuf) := ok_lshuffled F_lshuffled F_ldraw b_ldraw g_ldraw m_int m_list m_range m_len
  refine F.ok sc_lnames (fun vs H Q E h => spG_len h) (fun cdv A outer s H vs Q E hr h => ?_)
  obtain ⟨a, g, S, ds, rest, rfl, ha, hg, hS, hl, hA, hD, ⟨d0, m, xs0, rfl, hm, _, _, _, _, rfl⟩, q⟩ := h
  refine ⟨_, (pss_cons (ps_set (i := 2) sc_lnames.nd rfl (Or.inl rfl) (pe_lst (pa_cons pe_str (pa_cons pe_str (pa_cons pe_str (pa_cons pe_str (pa_cons pe_str (pa_cons pe_str (pa_cons pe_str (pa_cons pe_str (pa_cons pe_str (pa_cons pe_str pa_nil))))))))))))
      (pss_cons (ps_asg (pe_tup (pa_cons (pe_call G_ldraw (hr.mono (by decide)) (by rfl) g_ldraw F_ldraw.kp b_ldraw .nil pass0 (pa_cons (pv 0) (pa_cons pe_int pa_nil))) (pa_cons (pe_call G_ldraw (hr.mono (by decide)) (by rfl) g_ldraw F_ldraw.kp b_ldraw .nil pass0 (pa_cons (pv 0) (pa_cons pe_int pa_nil))) pa_nil))) (pg_tup rfl (pgs_cons (pg_name (i := 3) sc_lnames.nd rfl (Or.inl rfl)) (pgs_cons (pg_name (i := 4) sc_lnames.nd rfl (Or.inr rfl)) pgs_nil))))
      (pss_cons (ps_if (pt_cmpR op_eq (pv 3) pe_int (nomark _)) (pss_one (ps_ret (pe_slice sl_list (pe_call G_lshuffled (hr.mono (by decide)) (by rfl) g_lshuffled F_lshuffled.kp b_lshuffled .nil pass0 (pa_cons (pv 0) (pa_cons (pv 2) pa_nil))) po_none (po_some (pv 1))))) pss_nil)
      (pss_cons (ps_if (pt_cmpR op_eq (pv 3) pe_int (nomark _)) (pss_one (ps_ret (pe_call G_lshuffled (hr.mono (by decide)) (by rfl) g_lshuffled F_lshuffled.kp b_lshuffled .nil pass0 (pa_cons (pv 0) (pa_cons (pe_lc (own := [("_law_at", 6)]) rfl sc_lnames.nd (g := (gName 6)) (pi_range1 rfl m_range (pa_cons (pv 1) pa_nil)) (blkOk_by (own := [("_law_at", 6)]) (N := N_lnames) (sc := defScope s_lnames) (by decide +kernel)) (fun _ _ _ _ _ => (pg_name (i := 6) sc_lnames.nd rfl (Or.inl rfl))) (fun _ _ _ _ _ => pts_nil) (fun _ _ _ _ _ => (pe_slice sl_str pe_str po_none (po_some (pe_op op_add (pv 6) pe_int))))) pa_nil))))) pss_nil)
      (pss_cons (ps_set (i := 5) sc_lnames.nd rfl (Or.inr rfl) pe_str)
      (pss_one (ps_ret (pe_lc (own := [("_law_at", 6)]) rfl sc_lnames.nd (g := (gName 6)) (pi_range1 rfl m_range (pa_cons (pv 1) pa_nil)) (blkOk_by (own := [("_law_at", 6)]) (N := N_lnames) (sc := defScope s_lnames) (by decide +kernel)) (fun _ _ _ _ _ => (pg_name (i := 6) sc_lnames.nd rfl (Or.inl rfl))) (fun _ _ _ _ _ => pts_nil) (fun _ _ _ _ _ => (pe_op op_add_str (pe_ix ix_str (pv 5) (pe_op op_mod (pe_callTy call_int1 (by rfl) m_int (by decide +kernel) (pa_cons (pe_op op_add (pv 4) (pe_op op_mul pe_int (pv 6))) pa_nil)) pe_int) (fun _ _ => rfl)) (pe_slice sl_str pe_str po_none (po_some (pe_op op_mod (pe_callTy call_int1 (by rfl) m_int (by decide +kernel) (pa_cons (pv 4) pa_nil)) pe_int))))))))))))), run_deal hS hD hA ?_⟩
  have hM : (dealM K S a g H).HasDeal a g := dealM_has ha hg
  have dr : ∀ {δ : Ds} {k : Int}, 0 < k → k < 1000000 → δ[0]? = some (some (.ptr a)) → EvP (dealM K S a g H) (tCall (spG K 1 R_draw) [] E0 (tCons (tVar 0) (tCons (tC (.int k)) tNil))) δ (fun d => ∃ n, d = .int n ∧ 0 ≤ n ∧ n < k) := fun {δ k} h0 h1 hs =>
    ep_callG hM (ea_cons (ed_var hs) (ea_cons ed_int ea_nil)) fun ds w => ⟨_, w, rfl, ⟨.int 0, k, 0, rfl, h0, h1, rfl, by omega, h0⟩, fun d ⟨m', n, e, _, _, e2, h2, h3⟩ => ⟨n, e2, h2, by injection e with e _; injection e with e; omega⟩⟩
  have fin : ∀ (xs : List Str), xs.length = m → (m ≤ 4 → xs.Nodup) → xs.all goodName = true → DupTop xs → R_names [.int (m : Int)] (.lst (xs.map Dt.str)) := fun xs h1 h2 h3 h4 => ⟨m, xs, rfl, hm, h1, h2, h3, h4, rfl⟩
  refine q_asg (d := .lst (someNames.map Dt.str)) (ed_lst (by repeat' (first | exact ea_nil | refine ea_cons ed_str ?_))) ?_
  refine p_asgG (ep_tup (eap_cons (dr (by decide) (by decide) rfl) fun _ _ => eap_cons (dr (by decide) (by decide) rfl) fun _ _ => ea_nil) ?_) ?_
  · rintro ds ⟨d, r, _, ⟨d', r', _, rfl, rfl⟩, rfl⟩
    show 2 ≤ 100000
    decide
  rintro _ ⟨_, ⟨_, _, ⟨n1, rfl, a0, a1⟩, ⟨_, _, ⟨n2, rfl, b0, b1⟩, rfl, rfl⟩, rfl⟩, rfl⟩
  refine ⟨_, _, gd_tup (gds_cons gd_name (gds_cons gd_name gds_nil)), ?_⟩
  refine q_when (eb_test (ed_eq (ed_var rfl) ed_int rfl)) (fun _ => ?_) (fun _ => ?_)
  · refine p_ret (P := R_names [.int (m : Int)]) (epp_slL (P1 := R_shuf [.lst (someNames.map Dt.str)]) (ep_callG hM (ea_cons (ed_var rfl) (ea_cons (ed_var rfl) ea_nil)) fun ds w => ⟨_, w, rfl, ⟨_, _, _, rfl, by decide, List.Perm.refl _, rfl⟩, fun d h => h⟩) eo_none (eo_some (ed_var rfl)) ?_) fun d v H' hR j l r => q d v H' hR j.1 j.2 r
    rintro _ ⟨xs, ys, e, _, hp, rfl⟩
    injection e with e _
    injection e with e
    subst e
    obtain ⟨zs, rfl, hz⟩ := strs_perm hp
    refine ⟨_, rfl, ?_⟩
    rintro _ _ rfl rfl
    rw [cutD_take, ← List.map_take]
    have lz : zs.length = 10 := hz.length_eq
    have nz : zs.Nodup := hz.nodup_iff.mpr some_good.2
    have nt : (zs.take m).Nodup := nz.sublist (List.take_sublist _ _)
    exact fin _ (by rw [List.length_take]; omega) (fun _ => nt) (all_take (all_perm some_good.1 hz)) (dup_nodup nt)
  refine q_when (eb_test (ed_eq (ed_var rfl) ed_int rfl)) (fun _ => ?_) (fun _ => ?_)
  · have hz : (((rangeD 0 (m : Int).toNat).filter fun _ => true).map fun d => match d with | .int i => Dt.str (zName i) | d => d) = (zNames m).map Dt.str := by
      rw [List.filter_eq_self.mpr (fun _ _ => rfl)]
      unfold rangeD zNames
      rw [Int.toNat_natCast, List.map_map, List.map_map]
      refine List.map_congr_left fun i _ => ?_
      show Dt.str (zName (0 + (i : Int))) = _
      rw [Int.zero_add]
      rfl
    refine p_ret (P := R_names [.int (m : Int)]) (ep_callG hM (R := R_shuf) (ea_cons (ed_var rfl) (ea_cons (ed_lc (fun _ => true) (fun d => match d with | .int i => Dt.str (zName i) | d => d) (ew_range1 (ea_cons (ed_var rfl) ea_nil) (by omega)) (by rw [rangeD_len]; omega) fun i d hd => ?_) ea_nil)) fun ds w => ⟨_, w, rfl, ⟨_, _, _, rfl, ?_, List.Perm.refl _, rfl⟩, ?_⟩) fun d v H' hR j l r => q d v H' hR j.1 j.2 r
    · obtain ⟨rfl, hi⟩ := rangeD_get hd
      refine ⟨_, _, gd_name, by simp, eb_yes, fun _ => ed_is (ep_slS ed_str (by decide) eo_none (eo_some (ed_II (ed_var rfl) ed_int))) rfl⟩
    · rw [hz, List.length_map]
      unfold zNames
      rw [List.length_map, List.length_range]
      omega
    · rintro d ⟨xs, ys, e, _, hp, rfl⟩
      injection e with e _
      injection e with e
      rw [← e, hz] at hp
      obtain ⟨zs, rfl, hp2⟩ := strs_perm hp
      have lz : zs.length = m := by
        rw [hp2.length_eq]
        unfold zNames
        rw [List.length_map, List.length_range]
      have t5 : zNames m = (zNames 5).take m := range_take _ hm
      by_cases h4 : m ≤ 4
      · have t4 : zNames m = (zNames 4).take m := range_take _ h4
        have nd : zs.Nodup := hp2.nodup_iff.mpr (by rw [t4]; exact z_good.2.sublist (List.take_sublist _ _))
        exact fin zs lz (fun _ => nd) (all_perm (by rw [t5]; exact all_take z_good.1) hp2) (dup_nodup nd)
      · have e5 : m = 5 := by omega
        subst e5
        exact fin zs lz (fun h => absurd h h4) (all_perm z_good.1 hp2) (dup_z hp2)
  refine q_asg ed_str ?_
  have hz : (((rangeD 0 (m : Int).toNat).filter fun _ => true).map fun d => match d with | .int i => Dt.str (lName n2 i) | d => d) = (lNames n2 m).map Dt.str := by
    rw [List.filter_eq_self.mpr (fun _ _ => rfl)]
    unfold rangeD lNames
    rw [Int.toNat_natCast, List.map_map, List.map_map]
    refine List.map_congr_left fun i _ => ?_
    show Dt.str (lName n2 (0 + (i : Int))) = _
    rw [Int.zero_add]
    rfl
  obtain ⟨sp, rfl⟩ : ∃ sp : Fin 26, n2 = (sp.val : Int) := ⟨⟨n2.toNat, by omega⟩, by simp; omega⟩
  have t5 : lNames (sp.val : Int) m = (lNames (sp.val : Int) 5).take m := range_take _ hm
  have nd : (lNames (sp.val : Int) m).Nodup := by rw [t5]; exact (l_good sp).2.sublist (List.take_sublist _ _)
  refine p_ret (P := R_names [.int (m : Int)]) (EvP.weak (ed_lc (fun _ => true) (fun d => match d with | .int i => Dt.str (lName (sp.val : Int) i) | d => d) (ew_range1 (ea_cons (ed_var rfl) ea_nil) (by omega)) (by rw [rangeD_len]; omega) fun i d hd => ?_) ?_) fun d v H' hR j l r => q d v H' hR j.1 j.2 r
  · obtain ⟨rfl, hi⟩ := rangeD_get hd
    have hr1 : 0 ≤ ((sp.val : Int) + 11 * (0 + (i : Int))) % 26 ∧ ((sp.val : Int) + 11 * (0 + (i : Int))) % 26 < 26 := ⟨Int.emod_nonneg _ (by decide), Int.emod_lt_of_pos _ (by decide)⟩
    refine ⟨_, _, gd_name, by simp, eb_yes, fun _ => ed_op (ed_op (ed_var rfl) (ed_CI (C := fun _ j => 0 < j) (ed_cb (ea_cons (ed_II (ed_var rfl) (ed_CI (C := CMul) ed_int (ed_var rfl) (Or.inl ⟨by decide, by decide⟩))) ea_nil) rc_int) ed_int (by show (0 : Int) < 26; decide)) (rd_ixS (by decide) (c := 97 + (((sp.val : Int) + 11 * (0 + (i : Int))) % 26).toNat) ?_))
      (ep_slS ed_str (by decide) eo_none (eo_some (ed_CI (C := fun _ j => 0 < j) (ed_cb (ea_cons (ed_var rfl) ea_nil) rc_int) ed_int (by show (0 : Int) < 3; decide)))) (rd_addS ?_)⟩
    · have := letters_at ⟨(((sp.val : Int) + 11 * (0 + (i : Int))) % 26).toNat, by omega⟩
      simp only at this
      rw [Int.toNat_of_nonneg hr1.1] at this
      exact this
    · have h1 : (cutS "wq" none (some ((sp.val : Int) % 3))).length ≤ 2 := cutS_len _ _ _
      have h2 : (⟨#[97 + (((sp.val : Int) + 11 * (0 + (i : Int))) % 26).toNat]⟩ : Str).length = 1 := rfl
      omega
  · rintro _ rfl
    rw [hz]
    exact fin _ (by unfold lNames; rw [List.length_map, List.length_range]) (fun _ => nd) (by rw [t5]; exact all_take (l_good sp).1) (dup_nodup nd)
end
end Mc

namespace Mc
open PySem PySem.Spec PyProof.Rows L2 Evl
def bitM (n i : Nat) : Bool := decide (n / 2 ^ i % 2 = 1)
theorem bitN_nat (n i : Nat) : bitN (n : Int) i = bitM n i := by
  unfold bitN bitM
  have e : (n : Int) / 2 ^ i = ((n / 2 ^ i : Nat) : Int) := by
    rw [Int.natCast_ediv, Int.natCast_pow]
    rfl
  have h := Bits.bitAnd_mask (x := (n : Int) / 2 ^ i) 1 (by rw [e]; exact Int.natCast_nonneg _)
  have h' : Builtin.bitAnd ((n : Int) / 2 ^ i) 1 = ((n : Int) / 2 ^ i) % 2 := h
  rw [h', e]
  congr 1
  apply propext
  omega
/-- all kinds, a name more in each turn -/
def lk (known : List Str) : List (List Str) := known.foldl (fun acc nm => acc ++ acc.map (· ++ [nm])) [[]]
theorem lk_snoc (l : List Str) (x : Str) : lk (l ++ [x]) = lk l ++ (lk l).map (· ++ [x]) := by
  unfold lk
  rw [List.foldl_append]
  rfl
theorem zip_snoc (l : List Str) (x : Str) : (l ++ [x]).zip (List.range (l ++ [x]).length) = l.zip (List.range l.length) ++ [(x, l.length)] := by
  rw [List.length_append, List.length_singleton, List.range_succ, List.zip_append (by simp)]
  rfl
theorem kindAt_snoc (l : List Str) (x : Str) (n : Nat) : kindAt (l ++ [x]) (n : Int) = kindAt l (n : Int) ++ (if bitM n l.length then [x] else []) := by
  unfold kindAt
  rw [zip_snoc, List.filter_append, List.map_append]
  congr 1
  rw [List.filter_cons, bitN_nat]
  split <;> rfl
theorem kindAt_congr (l : List Str) (n m : Nat) (h : ∀ i, i < l.length → bitM n i = bitM m i) : kindAt l (n : Int) = kindAt l (m : Int) := by
  unfold kindAt
  congr 1
  refine List.filter_congr fun p hp => ?_
  rw [bitN_nat, bitN_nat]
  exact h p.2 (List.mem_range.mp (List.of_mem_zip hp).2)
theorem bit_low {m k i : Nat} (hi : i < k) : bitM (2 ^ k + m) i = bitM m i := by
  unfold bitM
  have e : (2 ^ k + m) / 2 ^ i = 2 ^ (k - i) + m / 2 ^ i := by
    have h : 2 ^ k = 2 ^ (k - i) * 2 ^ i := by rw [← Nat.pow_add]; congr 1; omega
    rw [h, Nat.mul_comm, Nat.mul_add_div (Nat.two_pow_pos i)]
  have h2 : 2 ^ (k - i) = 2 * 2 ^ (k - i - 1) := by rw [← Nat.pow_succ']; congr 1; omega
  rw [e, h2]
  congr 1
  apply propext
  omega
theorem bit_top {m k : Nat} (hm : m < 2 ^ k) : bitM (2 ^ k + m) k = true := by
  unfold bitM
  have e : (2 ^ k + m) / 2 ^ k = 1 := by
    rw [Nat.add_comm, Nat.add_div_right _ (Nat.two_pow_pos k), Nat.div_eq_of_lt hm]
  rw [e]
  rfl
theorem bit_none {m k : Nat} (hm : m < 2 ^ k) : bitM m k = false := by
  unfold bitM
  rw [Nat.div_eq_of_lt hm]
  rfl
theorem lk_range : ∀ (l : List Str), (List.range (2 ^ l.length)).map (fun (n : Nat) => kindAt l (n : Int)) = lk l := by
  have go : ∀ (k : Nat) (l : List Str), l.length = k → (List.range (2 ^ k)).map (fun (n : Nat) => kindAt l (n : Int)) = lk l := by
    intro k
    induction k with
    | zero =>
      intro l h
      have e : l = [] := List.eq_nil_of_length_eq_zero h
      subst e
      rfl
    | succ k ih =>
      intro l h
      obtain ⟨r, x, rfl⟩ : ∃ r x, l = r ++ [x] := by
        cases l with
        | nil => cases h
        | cons y t => exact ⟨_, _, (List.dropLast_concat_getLast (List.cons_ne_nil y t)).symm⟩
      have hr : r.length = k := by
        rw [List.length_append, List.length_singleton] at h
        omega
      have e2 : 2 ^ (k + 1) = 2 ^ k + 2 ^ k := by rw [Nat.pow_succ]; omega
      rw [lk_snoc, ← ih r hr, e2, List.range_add, List.map_append, List.map_map, List.map_map]
      congr 1
      · refine List.map_congr_left fun n hn => ?_
        rw [kindAt_snoc, hr, bit_none (List.mem_range.mp hn)]
        exact List.append_nil _
      · refine List.map_congr_left fun n hn => ?_
        show kindAt (r ++ [x]) ((2 ^ k + n : Nat) : Int) = kindAt r (n : Int) ++ [x]
        rw [kindAt_snoc, hr, bit_top (List.mem_range.mp hn), kindAt_congr r _ n (fun i hi => bit_low (by omega))]
        rfl
  exact fun l => go l.length l rfl
def kindD (k : List Str) : Dt := .tup (k.map Dt.str)
theorem kindsD_eq (xs : List Str) : kindsD xs = .tup ((lk (ascT xs)).map kindD) := by
  unfold kindsD
  rw [← lk_range, List.map_map]
  rfl
theorem lk_len (l : List Str) : (lk l).length = 2 ^ l.length := by
  rw [← lk_range, List.length_map, List.length_range]

theorem lk_mem_len (l : List Str) (k : List Str) (h : k ∈ lk l) : k.length ≤ l.length := by
  rw [← lk_range] at h
  obtain ⟨n, _, rfl⟩ := List.mem_map.mp h
  unfold kindAt
  rw [List.length_map]
  refine Nat.le_trans (List.length_filter_le _ _) ?_
  rw [List.length_zip, List.length_range]
  omega
/-! ### the law's own kinds -/
abbrev s_lkinds : Stmt := topS 9
abbrev N_lkinds : List Str := ["_law_names_here", "_law_known", "_law_found", "_law_name", "_law_kind"]
theorem sc_lkinds : FnScope N_lkinds ["_law_names_here"] (defScope s_lkinds) := ⟨rfl, rfl, rfl, by decide +kernel, rfl, by decide +kernel, by decide +kernel⟩
def R_lkinds (ds : List Dt) (d : Dt) : Prop := ∃ xs : List Str, ds = [.lst (xs.map Dt.str)] ∧ xs.length ≤ 10 ∧ d = .lst ((lk (ascT xs)).map kindD)
theorem lk_take {l : List Str} {i : Nat} {x : Str} (h : l[i]? = some x) : lk (l.take (i + 1)) = lk (l.take i) ++ (lk (l.take i)).map (· ++ [x]) := by
  rw [List.take_add_one, h]
  exact lk_snoc _ _
section
variable {P : Program} {w : World} {K : PySem.W.Frag} {mg : Str → Option Value} {base : Heap}
theorem ok_lkinds {f : Addr} {fd : FuncData} (F : Fun K "_law_kinds" "_law_kinds" s_lkinds f fd) (m_sorted : mg "sorted" = none) (m_set : mg "set" = none) (m_str : mg "str" = none) : FnOk P w K mg base CX0 1 f fd ["_law_names_here"] (spR K 1 R_lkinds) := by
  refine F.ok sc_lkinds (fun vs H Q E h => spR_len h) (fun cdv A outer s H vs Q E hr h => ?_)
  obtain ⟨S, ds, hS, hl, hA, ⟨d0, xs, rfl, hx, rfl⟩, q⟩ := h
  refine ⟨_, (pss_cons (ps_par (by rfl) sc_lkinds.nd (i := 1) (j := 2) rfl rfl (by decide) rfl rfl (pa_cons (pe_callB (k_sortedT w rfl) (by rfl) m_sorted (by decide +kernel) (pa_cons (pe_callTy (k_setL K w rfl) (by rfl) m_set (by decide +kernel) (pa_cons (pe_lc (own := [("_law_name", 3)]) rfl sc_lkinds.nd (g := (gName 3)) (k_piL K (pv 0)) (blkOk_by (own := [("_law_name", 3)]) (N := N_lkinds) (sc := defScope s_lkinds) (by decide +kernel)) (fun _ _ _ _ _ => (pg_name (i := 3) sc_lkinds.nd rfl (Or.inl rfl))) (fun _ _ _ _ _ => pts_nil) (fun _ _ _ _ _ => (pe_callTy SkE.call_str_str (by rfl) m_str (by decide +kernel) (pa_cons (pv 3) pa_nil)))) pa_nil)) pa_nil)) (pa_cons (pe_lst (pa_cons (pe_tup pa_nil) pa_nil)) pa_nil)) (by rfl))
      (pss_cons (ps_for PassesOwn.never rfl (k_piL K (pv 1)) (pg_name (i := 3) sc_lkinds.nd rfl (Or.inr rfl)) (pss_one (ps_set (i := 2) sc_lkinds.nd rfl (Or.inl rfl) (pe_op op_cat (pv 2) (pe_lc (own := [("_law_kind", 4)]) rfl sc_lkinds.nd (g := (gName 4)) (k_piL K (pv 2)) (blkOk_by (own := [("_law_kind", 4)]) (N := N_lkinds) (sc := defScope s_lkinds) (by decide +kernel)) (fun _ _ _ _ _ => (pg_name (i := 4) sc_lkinds.nd rfl (Or.inl rfl))) (fun _ _ _ _ _ => pts_nil) (fun _ _ _ _ _ => (pe_op (k_catT K) (pv 4) (pe_tup (pa_cons (pv 3) pa_nil)))))))))
      (pss_one (ps_ret (pv 2))))), run_pure hS hA ?_⟩
  have hk : (ascT xs).length ≤ 10 := Nat.le_trans (ascT_len xs) hx
  have hs1 : (((xs.map Dt.str).filter fun _ => true).map id) = xs.map Dt.str := by
    rw [List.filter_eq_self.mpr (fun _ _ => rfl), List.map_id]
  refine p_par (P := fun l => l = [.lst ((ascT xs).map Dt.str), .lst [.tup []]]) (ea_cons (ed_sortedSetL (xs := xs) (ed_is (ed_lc (fun _ => true) id (ew_list (ed_var rfl)) (by rw [List.length_map]; omega) fun i d hd => ?_) (by rw [hs1])) (by omega)) (ea_cons (ed_lst (ea_cons (ed_tup ea_nil) ea_nil)) ea_nil)) ?_
  · rw [List.getElem?_map] at hd
    obtain ⟨x, _, rfl⟩ := Option.map_eq_some_iff.mp hd
    exact ⟨_, _, gd_name, by simp, eb_yes, fun _ => ed_cb (ea_cons (ed_var rfl) ea_nil) rc_strS⟩
  rintro _ rfl
  refine ⟨_, _, rfl, ?_⟩
  refine q_for (I := fun i δ => ∃ x3 x4, δ = [some (.lst (xs.map Dt.str)), some (.lst ((ascT xs).map Dt.str)), some (.lst ((lk ((ascT xs).take i)).map kindD)), x3, x4]) (ew_list (ed_var rfl)) ⟨none, none, rfl⟩ ?_ ?_
  · rintro B' _ i d δ1 hd ⟨x3, x4, rfl⟩
    rw [List.getElem?_map] at hd
    obtain ⟨x, hx1, rfl⟩ := Option.map_eq_some_iff.mp hd
    have hi : i < (ascT xs).length := (List.getElem?_eq_some_iff.mp hx1).1
    have lb : (lk ((ascT xs).take i)).length ≤ 1024 := by
      rw [lk_len, List.length_take]
      exact Nat.pow_le_pow_right (by decide) (by omega : min i (ascT xs).length ≤ 10)
    refine ⟨_, _, gd_name, p_asg1 (ed_op (ed_var rfl) (ed_lc (fun _ => true) (fun d => match d with | .tup ks => .tup (ks ++ [.str x]) | d => d) (ew_list (ed_var rfl)) (by rw [List.length_map]; omega) fun j d hd => ?_) (rd_cat ?_)) ?_⟩
    · rw [List.getElem?_map] at hd
      obtain ⟨k, hk1, rfl⟩ := Option.map_eq_some_iff.mp hd
      refine ⟨_, _, gd_name, by simp, eb_yes, fun _ => ed_op (ed_var rfl) (ed_tup (ea_cons (ed_var rfl) ea_nil)) (rd_catA ?_)⟩
      have : k.length ≤ 10 := by
        have h1 := lk_mem_len _ k (List.mem_of_getElem? hk1)
        rw [List.length_take] at h1
        omega
      simp only [List.length_map, List.length_cons, List.length_nil]
      omega
    · rw [List.length_map, List.length_map, List.filter_eq_self.mpr (fun _ _ => rfl), List.length_map]
      omega
    · rintro _ rfl σ H' s' l'
      refine ⟨_, ⟨some (.str x), x4, ?_⟩, s', l'⟩
      rw [lk_take hx1, List.map_append, List.filter_eq_self.mpr (fun _ _ => rfl), List.map_map, List.map_map]
      have e : ((fun d => match d with | Dt.tup ks => Dt.tup (ks ++ [Dt.str x]) | d => d) ∘ kindD) = kindD ∘ (fun k => k ++ [x]) := by
        funext k
        show Dt.tup (k.map Dt.str ++ [Dt.str x]) = Dt.tup ((k ++ [x]).map Dt.str)
        rw [List.map_append]
        rfl
      rw [e]
      rfl
  · rintro δ1 ⟨x3, x4, rfl⟩
    refine q_ret (ed_var rfl) fun v H' j l r => q _ v H' ⟨xs, rfl, hx, ?_⟩ j r
    rw [List.length_map, List.take_length]
end
end Mc

namespace Mc
open PySem PySem.Spec PyProof.Rows L2 Evl
abbrev s_law : Stmt := topS 10
abbrev N_law : List Str := ["_law_script", "_law_deal", "_law_turn", "_law_names_here", "_law_more", "_law_given", "_law_found", "_law_known", "_law_at", "_law_kind", "_law_name", "_law_spot"]
theorem sc_law : FnScope N_law ["_law_script"] (defScope s_law) := ⟨rfl, rfl, rfl, by decide +kernel, rfl, by decide +kernel, by decide +kernel⟩
def spLaw (K : PySem.W.Frag) : Sp := fun vs H Q _ => ∃ (p : Addr) (ns : List Int), vs = [.ref p] ∧ SqL K H p (ns.map V.int) ∧ ns.length ≤ 63 ∧ ∀ H', Q (.bl true) H'

/-! ### the mathematics of this law -/
theorem asc_congr {xs ys : List Str} (h : ∀ y, y ∈ xs ↔ y ∈ ys) : ascT xs = ascT ys := ris_eq ris_ascT ris_ascT fun y => by rw [mem_ascT, mem_ascT, h]
theorem kindsD_congr {xs ys : List Str} (h : ∀ y, y ∈ xs ↔ y ∈ ys) : kindsD xs = kindsD ys := by
  rw [kindsD_eq, kindsD_eq, asc_congr h]
theorem mem_more {xs ys : List Str} {k : Nat} (h : ys.Perm (xs ++ xs.take k)) : ∀ y, y ∈ ys ↔ y ∈ xs := fun y => by
  rw [h.mem_iff, List.mem_append]
  exact ⟨fun z => z.elim id List.mem_of_mem_take, Or.inl⟩
theorem good_strOk {x : Str} (h : goodName x = true) : PyData.strOk x = true ∧ x.length ≤ 4 := by
  unfold goodName at h
  simp only [Bool.and_eq_true, decide_eq_true_eq, List.all_eq_true] at h
  refine ⟨?_, h.1.1.2⟩
  unfold PyData.strOk
  rw [← Array.all_toList, List.all_eq_true]
  exact fun c hc => decide_eq_true (by have := (h.2 c hc).2; omega)
theorem nice_strs {xs : List Str} (h : xs.all goodName = true) : ∀ d ∈ xs.map Dt.str, Nice 8 d 0 4 := fun d hd => by
  obtain ⟨x, hx, rfl⟩ := List.mem_map.mp hd
  obtain ⟨h1, h2⟩ := good_strOk (List.all_eq_true.mp h x hx)
  exact (nice_str h1).mono (Nat.le_refl _) h2
theorem lk_mem_sub (l : List Str) (k : List Str) (h : k ∈ lk l) : ∀ x ∈ k, x ∈ l := by
  rw [← lk_range] at h
  obtain ⟨n, _, rfl⟩ := List.mem_map.mp h
  intro x hx
  unfold kindAt at hx
  obtain ⟨p, hp, rfl⟩ := List.mem_map.mp hx
  exact (List.of_mem_zip (List.mem_filter.mp hp).1).1
theorem nice_kinds {xs : List Str} (h : xs.all goodName = true) (hl : xs.length ≤ 10) : ∀ d ∈ (lk (ascT xs)).map kindD, Nice 8 d 1 50 := fun d hd => by
  obtain ⟨k, hk, rfl⟩ := List.mem_map.mp hd
  have lk1 : k.length ≤ 10 := Nat.le_trans (lk_mem_len _ _ hk) (Nat.le_trans (ascT_len xs) hl)
  refine (nice_tup (nice_strs (xs := k) ?_)).mono (Nat.le_refl _) ?_
  · rw [List.all_eq_true] at h ⊢
    exact fun x hx => h x (mem_ascT.mp (lk_mem_sub _ _ hk x hx))
  · rw [List.length_map]
    omega
theorem nice_kindsD {xs : List Str} (h : xs.all goodName = true) (hl : xs.length ≤ 10) : Nice 8 (kindsD xs) 2 52224 := by
  rw [kindsD_eq]
  refine (nice_tup (nice_kinds h hl)).mono (Nat.le_refl _) ?_
  rw [List.length_map, lk_len]
  have : (2 : Nat) ^ (ascT xs).length ≤ 2 ^ 10 := Nat.pow_le_pow_right (by decide) (Nat.le_trans (ascT_len xs) hl)
  omega
theorem cutD_map {xs : List Str} {k : Nat} : cutD (xs.map Dt.str) none (some (k : Int)) = (xs.take k).map Dt.str := by
  rw [cutD_take, List.map_take]
/-- the law's test on a number's digits -/
def bitL (n : Int) (i : Int) : Bool := decide (n / 2 ^ i.toNat % 2 = 1)
theorem bitL_nat (n i : Nat) : bitL (n : Int) (i : Int) = bitM n i := by
  unfold bitL bitM
  have e : (n : Int) / 2 ^ i = ((n / 2 ^ i : Nat) : Int) := by
    rw [Int.natCast_ediv, Int.natCast_pow]
    rfl
  rw [Int.toNat_natCast, e]
  congr 1
  apply propext
  omega
theorem kindAt_more (l zs : List Str) (n : Nat) (h : n < 2 ^ l.length) : kindAt (l ++ zs) (n : Int) = kindAt l (n : Int) := by
  unfold kindAt
  have e : (l ++ zs).zip (List.range (l ++ zs).length) = l.zip (List.range l.length) ++ zs.zip ((List.range zs.length).map (l.length + ·)) := by
    rw [List.length_append, List.range_add, List.zip_append (by simp)]
  rw [e, List.filter_append, List.map_append]
  have z : (zs.zip ((List.range zs.length).map (l.length + ·))).filter (fun p => bitN (n : Int) p.2) = [] := by
    rw [List.filter_eq_nil_iff]
    intro p hp
    obtain ⟨i, _, hi⟩ := List.mem_map.mp (List.of_mem_zip hp).2
    rw [bitN_nat, ← hi]
    unfold bitM
    rw [Nat.div_eq_of_lt (Nat.lt_of_lt_of_le h (Nat.pow_le_pow_right (by decide) (Nat.le_add_right _ _)))]
    exact Bool.false_ne_true
  rw [z]
  exact List.append_nil _
theorem digits_eq (zs : List Str) (n : Nat) : (((enumD (zs.map Dt.str)).filter fun d => bitL (n : Int) (pairI d)).map pairS) = (kindAt zs (n : Int)).map Dt.str := by
  rw [enumD_strs, List.filter_map, List.map_map]
  unfold kindAt
  rw [List.map_map]
  have e : ((fun d => bitL (n : Int) (pairI d)) ∘ fun p : Str × Nat => Dt.tup [Dt.int (p.2 : Int), Dt.str p.1]) = fun p => bitN (n : Int) p.2 := by
    funext p
    show bitL (n : Int) (p.2 : Int) = bitN (n : Int) p.2
    rw [bitL_nat, bitN_nat]
  rw [e]
  rfl
theorem str_inj {a b : List Str} (h : a.map Dt.str = b.map Dt.str) : a = b := seqD_strs_unique (c := .lst (a.map Dt.str)) rfl (congrArg some h)
theorem R2P.weak {M : Mode} {r : V → V → Hp → VK → Prop} {d e : Dt} {P P' : Dt → Prop} (h : R2P M r d e P) (w : ∀ f, P f → P' f) : R2P M r d e P' := fun N n x y H j hx hy Q q => h N n x y H j hx hy Q fun f v H' hp => q f v H' (w f hp)
section
variable {P : Program} {w : World} {K : PySem.W.Frag} {mg : Str → Option Value} {base : Heap}
theorem ok_law {f fA fB fK fO fD fS fN fL : Addr} {fd fdA fdB fdK fdO fdD fdS fdN fdL : FuncData} (F : Fun K "law" "law" s_law f fd) (F_ascending : Fun K "ascending" "ascending" s_ascending fA fdA) (F_kind_at : Fun K "kind_at" "kind_at" s_kind_at fB fdB) (F_kinds : Fun K "kinds" "kinds" s_kinds fK fdK)
    (F_lsource : Fun K "_law_source" "_law_source" s_lsource fO fdO) (F_ldraw : Fun K "_law_draw" "_law_draw" s_ldraw fD fdD) (F_lshuffled : Fun K "_law_shuffled" "_law_shuffled" s_lshuffled fS fdS) (F_lnames : Fun K "_law_names" "_law_names" s_lnames fN fdN) (F_lkinds : Fun K "_law_kinds" "_law_kinds" s_lkinds fL fdL)
    (b_ascending : Binds K fdA ["names"] []) (b_kind_at : Binds K fdB ["names", "number"] []) (b_kinds : Binds K fdK ["names"] []) (b_lsource : Binds K fdO ["_law_script", "_law_base"] []) (b_ldraw : Binds K fdD ["_law_deal", "_law_many"] []) (b_lshuffled : Binds K fdS ["_law_deal", "_law_some"] []) (b_lnames : Binds K fdN ["_law_deal", "_law_many"] []) (b_lkinds : Binds K fdL ["_law_names_here"] [])
    (g_ascending : mg "ascending" = some (.ref fA)) (g_kind_at : mg "kind_at" = some (.ref fB)) (g_kinds : mg "kinds" = some (.ref fK)) (g_lsource : mg "_law_source" = some (.ref fO)) (g_ldraw : mg "_law_draw" = some (.ref fD)) (g_lshuffled : mg "_law_shuffled" = some (.ref fS)) (g_lnames : mg "_law_names" = some (.ref fN)) (g_lkinds : mg "_law_kinds" = some (.ref fL))
    (m_tuple : mg "tuple" = none) (m_sorted : mg "sorted" = none) (m_str : mg "str" = none) (m_enumerate : mg "enumerate" = none) (m_range : mg "range" = none) (m_len : mg "len" = none) (m_int : mg "int" = none) (m_abs : mg "abs" = none) (m_list : mg "list" = none) (m_set : mg "set" = none) (m_repr : mg "repr" = none) : FnG P w K mg base 5 f fd ["_law_script"] (spLaw K) := by
  have G_kinds : FnOk P w K mg base CX0 2 fK fdK ["names"] (spR K 1 R_kinds) := ok_kinds F_kinds F_ascending F_kind_at b_ascending b_kind_at g_ascending g_kind_at m_tuple m_sorted m_str m_enumerate m_range m_len
  have G_lsource : FnOk P w K mg base CX0 1 fO fdO ["_law_script", "_law_base"] (spSource K) := ok_lsource F_lsource m_int m_abs m_enumerate
  have G_ldraw : FnOk P w K mg base CX0 1 fD fdD ["_law_deal", "_law_many"] (spG K 1 R_draw) := (ok_ldraw F_ldraw m_int).imp draw_imp
  have G_lshuffled : FnOk P w K mg base CX0 2 fS fdS ["_law_deal", "_law_some"] (spG K 1 R_shuf) := ok_lshuffled F_lshuffled F_ldraw b_ldraw g_ldraw m_int m_list m_range m_len
  have G_lnames : FnOk P w K mg base CX0 3 fN fdN ["_law_deal", "_law_many"] (spG K 1 R_names) := ok_lnames F_lnames F_ldraw F_lshuffled b_ldraw b_lshuffled g_ldraw g_lshuffled m_int m_list m_range m_len
  have G_lkinds : FnOk P w K mg base CX0 1 fL fdL ["_law_names_here"] (spR K 1 R_lkinds) := ok_lkinds F_lkinds m_sorted m_set m_str
  refine fun_okG F sc_law (fun vs H Q E h => ?_) (fun cdv A outer s H vs Q E hgd hr h => ?_)
  · obtain ⟨p, ns, rfl, _⟩ := h
    rfl
  obtain ⟨p, ns, rfl, hp, hn, q⟩ := h
  refine ⟨_, (pss_cons (ps_set (i := 1) sc_law.nd rfl (Or.inl rfl) (pe_call G_lsource (hr.mono (by decide)) (by rfl) g_lsource F_lsource.kp b_lsource .nil pass0 (pa_cons (pv 0) (pa_cons pe_int pa_nil))))
      (pss_cons (ps_for PassesOwn.never rfl (pi_range1 rfl m_range (pa_cons pe_int pa_nil)) (pg_name (i := 2) sc_law.nd rfl (Or.inl rfl)) (pss_cons (ps_set (i := 3) sc_law.nd rfl (Or.inl rfl) (pe_call G_lnames (hr.mono (by decide)) (by rfl) g_lnames F_lnames.kp b_lnames .nil pass0 (pa_cons (pv 1) (pa_cons (pe_call G_ldraw (hr.mono (by decide)) (by rfl) g_ldraw F_ldraw.kp b_ldraw .nil pass0 (pa_cons (pv 1) (pa_cons pe_int pa_nil))) pa_nil))))
      (pss_cons (ps_set (i := 4) sc_law.nd rfl (Or.inl rfl) (pe_call G_lshuffled (hr.mono (by decide)) (by rfl) g_lshuffled F_lshuffled.kp b_lshuffled .nil pass0 (pa_cons (pv 1) (pa_cons (pe_op op_cat (pv 3) (pe_slice (k_slL K) (pv 3) po_none (po_some (pe_call G_ldraw (hr.mono (by decide)) (by rfl) g_ldraw F_ldraw.kp b_ldraw .nil pass0 (pa_cons (pv 1) (pa_cons pe_int pa_nil)))))) pa_nil))))
      (pss_cons (ps_set (i := 5) sc_law.nd rfl (Or.inl rfl) (pe_ifExp (pt_cmpR op_eq (pe_call G_ldraw (hr.mono (by decide)) (by rfl) g_ldraw F_ldraw.kp b_ldraw .nil pass0 (pa_cons (pv 1) (pa_cons pe_int pa_nil))) pe_int (nomark _)) (pe_callTy (k_tuple K) (by rfl) m_tuple (by decide +kernel) (pa_cons (pv 4) pa_nil)) (pe_callTy (k_list K) (by rfl) m_list (by decide +kernel) (pa_cons (pv 4) pa_nil))))
      (pss_cons (ps_set (i := 6) sc_law.nd rfl (Or.inl rfl) (pe_call G_kinds (hr.mono (by decide)) (by rfl) g_kinds F_kinds.kp b_kinds .nil pass0 (pa_cons (pv 5) pa_nil)))
      (pss_cons (ps_if (PW.pt (pw_or (pt_cmpR op_ne (pe_callB (k_repr K hgd hr.units) (by rfl) m_repr (by decide +kernel) (pa_cons (pv 6) pa_nil)) (pe_callB (k_repr K hgd hr.units) (by rfl) m_repr (by decide +kernel) (pa_cons (pe_callTy (k_tuple K) (by rfl) m_tuple (by decide +kernel) (pa_cons (pe_call G_lkinds (hr.mono (by decide)) (by rfl) g_lkinds F_lkinds.kp b_lkinds .nil pass0 (pa_cons (pv 3) pa_nil)) pa_nil)) pa_nil)) (nomark _)) (pw_or1 (pt_cmpR (k_neD K hr.units) (pe_callTy (k_list K) (by rfl) m_list (by decide +kernel) (pa_cons (pv 5) pa_nil)) (pv 4) (nomark _))))) (pss_one (ps_ret pe_bl)) pss_nil)
      (pss_cons (ps_set (i := 7) sc_law.nd rfl (Or.inl rfl) (pe_callB (k_sortedS K) (by rfl) m_sorted (by decide +kernel) (pa_cons (pe_lc (own := [("_law_name", 10)]) rfl sc_law.nd (g := (gName 10)) (k_piL K (pv 3)) (blkOk_by (own := [("_law_name", 10)]) (N := N_law) (sc := defScope s_law) (by decide +kernel)) (fun _ _ _ _ _ => (pg_name (i := 10) sc_law.nd rfl (Or.inl rfl))) (fun _ _ _ _ _ => pts_nil) (fun _ _ _ _ _ => (pe_callTy SkE.call_str_str (by rfl) m_str (by decide +kernel) (pa_cons (pv 10) pa_nil)))) pa_nil)))
      (pss_cons (ps_for PassesOwn.never rfl (k_piE K rfl m_enumerate (pa_cons (pv 6) pa_nil)) (k_gt K rfl (pgs_cons (pg_name (i := 8) sc_law.nd rfl (Or.inr rfl)) (pgs_cons (pg_name (i := 9) sc_law.nd rfl (Or.inl rfl)) pgs_nil))) (pss_one (ps_if (pt_cmpR (k_neD K hr.units) (pe_lc (own := [("_law_spot", 11), ("_law_name", 10)]) rfl sc_law.nd (g := (gTup K 2 (gCons (gName 11) (gCons (gName 10) gNil)))) (k_piE K rfl m_enumerate (pa_cons (pv 7) pa_nil)) (blkOk_by (own := [("_law_spot", 11), ("_law_name", 10)]) (N := N_law) (sc := defScope s_law) (by decide +kernel)) (fun _ _ _ _ _ => (k_gt K rfl (pgs_cons (pg_name (i := 11) sc_law.nd rfl (Or.inl rfl)) (pgs_cons (pg_name (i := 10) sc_law.nd rfl (Or.inl rfl)) pgs_nil)))) (fun _ _ _ _ _ => pts_one (pt_cmpR op_eq (pe_op op_mod (pe_callTy call_int1 (by rfl) m_int (by decide +kernel) (pa_cons (pe_op op_shr (pv 8) (pv 11)) pa_nil)) pe_int) pe_int (nomark _))) (fun _ _ _ _ _ => (pv 10))) (pe_callTy (k_list K) (by rfl) m_list (by decide +kernel) (pa_cons (pv 9) pa_nil)) (nomark _)) (pss_one (ps_ret pe_bl)) pss_nil)))
      (pss_one (ps_if (pt_cmpR (k_neD K hr.units) (pe_call G_kinds (hr.mono (by decide)) (by rfl) g_kinds F_kinds.kp b_kinds .nil pass0 (pa_cons (k_rev K (pv 3)) pa_nil)) (pv 6) (nomark _)) (pss_one (ps_ret pe_bl)) pss_nil))))))))))
      (pss_one (ps_ret (pe_and (pe_cmpR (k_eqD K hr.units) (pe_call G_kinds (hr.mono (by decide)) (by rfl) g_kinds F_kinds.kp b_kinds .nil pass0 (pa_cons (pe_lst pa_nil) pa_nil)) (pe_tup (pa_cons (pe_tup pa_nil) pa_nil)) (nomark _)) (pe_one (pe_cmpR (k_eqD K hr.units) (pe_call G_kinds (hr.mono (by decide)) (by rfl) g_kinds F_kinds.kp b_kinds .nil pass0 (pa_cons (pe_tup (pa_cons pe_str (pa_cons pe_str pa_nil))) pa_nil)) (pe_tup (pa_cons (pe_tup pa_nil) (pa_cons (pe_tup (pa_cons pe_str pa_nil)) (pa_cons (pe_tup (pa_cons pe_str pa_nil)) (pa_cons (pe_tup (pa_cons pe_str (pa_cons pe_str pa_nil))) pa_nil))))) (nomark _)))))))), ?_⟩
  refine ⟨.ref p, rfl, p, ns, 0, rfl, hp, hn, by decide, by decide, fun a g H1 e1 ha hg hD => ?_⟩
  have hS : ∀ b ∈ [a, g], H1 b ≠ none := fun b hb => by
    rcases List.mem_cons.mp hb with z | z
    · rw [z]; exact (deal_some hD).1
    · rw [List.mem_singleton.mp z]; exact (deal_some hD).2
  have hM : (dealM K [a, g] a g H1).HasDeal a g := dealM_has (by simp) (by simp)
  have dr : ∀ {δ : Ds} {k : Int}, 0 < k → k < 1000000 → δ[1]? = some (some (.ptr a)) → EvP (dealM K [a, g] a g H1) (tCall (spG K 1 R_draw) [] E0 (tCons (tVar 1) (tCons (tC (.int k)) tNil))) δ (fun d => ∃ n, d = .int n ∧ 0 ≤ n ∧ n < k) := fun {δ k} h0 h1 hs =>
    ep_callG hM (ea_cons (ed_var hs) (ea_cons ed_int ea_nil)) fun ds w => ⟨_, w, rfl, ⟨.int 0, k, 0, rfl, h0, h1, rfl, by omega, h0⟩, fun d ⟨m', n, e, _, _, e2, h2, h3⟩ => ⟨n, e2, h2, by injection e with e _; injection e with e; omega⟩⟩
  dsimp only [gName]
  refine run_from (M := dealM K [a, g] a g H1) (δ := [some (.ptr p), some (.ptr a), none, none, none, none, none, none, none, none, none, none]) (dealM_ok hS) ⟨(rps_start (N := N_law) (ds := [.ptr p]) (RpA.one rfl)).set (i := 1) (d := .ptr a) rfl, hD, Ex.refl _⟩ (Ex.refl _) ?_
  refine q_for (I := fun _ δ => ∃ x2 x3 x4 x5 x6 x7 x8 x9 x10 x11, δ = [some (.ptr p), some (.ptr a), x2, x3, x4, x5, x6, x7, x8, x9, x10, x11]) (ew_range1 (ea_cons ed_int ea_nil) (by decide) (by decide)) ⟨_, _, _, _, _, _, _, _, _, _, rfl⟩ ?_ ?_
  · rintro B' _ i d δ1 hd ⟨x2, x3, x4, x5, x6, x7, x8, x9, x10, x11, rfl⟩
    obtain ⟨rfl, hi⟩ := rangeD_get hd
    refine ⟨_, _, gd_name, ?_⟩
    -- names
    refine p_asg (P := fun d => ∃ xs : List Str, xs.length ≤ 5 ∧ xs.all goodName = true ∧ DupTop xs ∧ d = .lst (xs.map Dt.str)) (ep_callG hM (R := R_names) (eap_cons (ed_var rfl) fun _ _ => eap_cons (dr (by decide) (by decide) rfl) fun _ _ => ea_nil) ?_) ?_
    · rintro ds ⟨_, _, rfl, ⟨_, _, ⟨n, rfl, n0, n1⟩, rfl, rfl⟩, rfl⟩
      refine ⟨_, rfl, rfl, ?_, ?_⟩
      · have h5 : n.toNat ≤ 5 := by omega
        refine ⟨_, n.toNat, (lNames 0 5).take n.toNat, by rw [Int.toNat_of_nonneg n0], h5, ?_, fun _ => (l_good 0).2.sublist (List.take_sublist _ _), all_take (l_good 0).1, dup_nodup ((l_good 0).2.sublist (List.take_sublist _ _)), rfl⟩
        rw [List.length_take]
        have : (lNames 0 5).length = 5 := rfl
        omega
      · rintro d ⟨m, xs, _, hm, hl, _, hgd, hdt, rfl⟩
        exact ⟨xs, by omega, hgd, hdt, rfl⟩
    rintro _ ⟨xs, hx5, hgood, hdup, rfl⟩
    have all_sub : ∀ {ys : List Str}, (∀ y, y ∈ ys ↔ y ∈ xs) → ys.all goodName = true := fun {ys} h => by
      rw [List.all_eq_true] at hgood ⊢
      exact fun y hy => hgood y ((h y).mp hy)
    -- more
    refine p_asg (P := fun d => ∃ (ys : List Str) (k : Nat), k ≤ 2 ∧ ys.Perm (xs ++ xs.take k) ∧ d = .lst (ys.map Dt.str)) (ep_callG hM (R := R_shuf) (eap_cons (ed_var rfl) fun _ _ => eap_cons (P1 := fun d => ∃ k : Nat, k ≤ 2 ∧ d = .lst ((xs ++ xs.take k).map Dt.str)) (ep_op (ed_var rfl) (fun _ _ => epp_slL (P := fun d => ∃ k : Nat, k ≤ 2 ∧ d = .lst ((xs.take k).map Dt.str)) (ed_var rfl) eo_none (eop_some (B := fun o => ∃ k : Nat, k ≤ 2 ∧ o = some (k : Int)) (dr (by decide) (by decide) rfl) ?_) ?_) ?_) fun _ _ => ea_nil) ?_) ?_
    · rintro d ⟨n, rfl, n0, n1⟩
      exact ⟨n, rfl, n.toNat, by omega, by rw [Int.toNat_of_nonneg n0]⟩
    · rintro _ rfl
      refine ⟨_, rfl, ?_⟩
      rintro _ _ rfl ⟨k, hk, rfl⟩
      exact ⟨k, hk, by rw [cutD_map]⟩
    · rintro _ _ rfl ⟨k, hk, rfl⟩
      refine fun N n x y H j hx hy Q q => rd_cat ?_ N n x y H j hx hy Q fun f v H' hf => q f v H' ⟨k, hk, ?_⟩
      · rw [List.length_map, List.length_map, List.length_take]
        omega
      · rw [hf, List.map_append]
    · rintro ds ⟨_, _, rfl, ⟨_, _, ⟨k, hk, rfl⟩, rfl, rfl⟩, rfl⟩
      refine ⟨_, rfl, rfl, ⟨_, _, _, rfl, ?_, List.Perm.refl _, rfl⟩, ?_⟩
      · rw [List.length_map, List.length_append, List.length_take]
        omega
      · rintro d ⟨us, vs, e, _, hpm, rfl⟩
        injection e with e _
        injection e with e
        subst e
        obtain ⟨ys, rfl, hy⟩ := strs_perm hpm
        exact ⟨ys, k, hk, hy, rfl⟩
    rintro _ ⟨ys, k, hk2, hperm, rfl⟩
    have mem_ys := mem_more hperm
    have ly : ys.length ≤ 7 := by
      rw [hperm.length_eq, List.length_append, List.length_take]
      omega
    have gy := all_sub mem_ys
    -- given
    refine p_asg (P := fun d => strsOf d ys) (ep_if (B := fun _ => True) (eq_test (P := fun d => ∃ b, d = .bl b) (ep_op (P2 := fun _ e => e = .int 0) (dr (by decide) (by decide) rfl) (fun _ _ => ed_int) ?_) ?_) (fun _ => EvP.weak (ed_cb (ea_cons (ed_var rfl) ea_nil) (rc_tuple rfl)) ?_) (fun _ => EvP.weak (ed_cb (ea_cons (ed_var rfl) ea_nil) (rc_list rfl)) ?_)) ?_
    · rintro _ _ ⟨n, rfl, _⟩ rfl
      exact R2P.weak (rd_eq rfl) fun _ h => ⟨_, h⟩
    · rintro _ ⟨b, rfl⟩
      exact ⟨b, rfl, trivial⟩
    · rintro _ rfl
      rfl
    · rintro _ rfl
      rfl
    intro c hc
    -- found
    refine q_asg (d := kindsD xs) (ed_call (ea_cons (ed_var rfl) ea_nil) rfl ⟨c, ys, rfl, hc, by omega, kindsD_congr fun y => (mem_ys y).symm⟩ ?_) ?_
    · rintro d ⟨c', zs, e, hc', _, rfl⟩
      cases e
      rw [← seqD_strs_unique hc hc']
      exact kindsD_congr mem_ys
    have nk : Nice 8 (kindsD xs) 2 52224 := nice_kindsD hgood (by omega)
    have ny : Nice 8 (.lst (ys.map Dt.str)) 1 (7 * 5) := (nice_lst (nice_strs gy)).mono (Nat.le_refl _) (by rw [List.length_map]; omega)
    refine q_when (b := false) (eb_is (eb_or (eb_test (ed_ne (ed_repr (ea_cons (ed_var rfl) ea_nil) (Or.inr ⟨_, rfl⟩) nk (by decide) (by decide)) (ed_repr (ea_cons (ed_cb (ea_cons (ed_call (ea_cons (ed_var rfl) ea_nil) rfl ⟨xs, rfl, by omega, rfl⟩ ?_) ea_nil) (rc_tuple rfl)) ea_nil) (Or.inr ⟨_, rfl⟩) (by rw [← kindsD_eq]; exact nk) (by decide) (by decide)) rfl)) (fun _ => eb_test (ed_neSame (ed_cb (ea_cons (ed_var rfl) ea_nil) (rc_list hc)) (ed_var rfl) ny))) ?_) (fun h => absurd h Bool.false_ne_true) (fun _ => ?_)
    · rintro d ⟨zs, e, _, rfl⟩
      injection e with e _
      injection e with e
      rw [str_inj e]
    · rw [← kindsD_eq]
      show (!eqS (Dt.str _) (Dt.str _) || false) = false
      unfold eqS
      simp
    -- known
    refine p_asg (P := fun d => ∃ zs : List Str, zs.Perm xs ∧ sortedS zs = true ∧ d = .lst (zs.map Dt.str)) (ed_cb (ea_cons (ed_is (ed_lc (fun _ => true) id (ew_list (ed_var rfl)) (by rw [List.length_map]; omega) fun j d hd => ?_) (e := .lst (xs.map Dt.str)) ?_) ea_nil) (rc_sortedS (xs := xs) (by omega))) ?_
    · rw [List.getElem?_map] at hd
      obtain ⟨x, hx, rfl⟩ := Option.map_eq_some_iff.mp hd
      exact ⟨_, _, gd_name, by simp, eb_yes, fun _ => ed_cb (ea_cons (ed_var rfl) ea_nil) rc_strS⟩
    · rw [List.filter_eq_self.mpr (fun _ _ => rfl), List.map_id]
    rintro _ ⟨zs, hzp, hzs, rfl⟩
    obtain ⟨more, hmore⟩ := hdup zs hzp hzs
    have lz : zs.length ≤ 5 := by rw [hzp.length_eq]; exact hx5
    -- the numbers
    refine q_for (I := fun _ δ => ∃ y8 y9, δ = [some (.ptr p), some (.ptr a), some (.int (0 + i)), some (.lst (xs.map Dt.str)), some (.lst (ys.map Dt.str)), some c, some (kindsD xs), some (.lst (zs.map Dt.str)), y8, y9, x10, x11]) (ew_enum (ea_cons (ed_var rfl) ea_nil) (by rw [kindsD_eq]; rfl)) ⟨_, _, rfl⟩ ?_ ?_
    · rintro B2 _ n d δ2 hd ⟨y8, y9, rfl⟩
      obtain ⟨e, he, rfl, hn2⟩ := enumD_get hd
      rw [List.getElem?_map] at he
      obtain ⟨k0, hk0, rfl⟩ := Option.map_eq_some_iff.mp he
      have hn3 : n < 2 ^ (ascT xs).length := by rw [List.length_map, lk_len] at hn2; exact hn2
      have nk0 : Nice 8 (.lst (k0.map Dt.str)) 1 50 := by
        have m0 := List.mem_of_getElem? hk0
        have l0 := Nat.le_trans (lk_mem_len _ _ m0) (ascT_len xs)
        refine (nice_lst (nice_strs (xs := k0) ?_)).mono (Nat.le_refl _) ?_
        · rw [List.all_eq_true] at hgood ⊢
          exact fun x hx => hgood x (mem_ascT.mp (lk_mem_sub _ _ m0 x hx))
        · rw [List.length_map]
          omega
      have hk : k0 = kindAt (ascT xs) (n : Int) := by
        rw [← lk_range, List.getElem?_map, List.getElem?_range hn3] at hk0
        exact (Option.some.inj hk0).symm
      refine ⟨_, _, gd_tup (gds_cons gd_name (gds_cons gd_name gds_nil)), p_if (C := fun b => b = false) (eb_test (ed_neSame (d := .lst (k0.map Dt.str)) (ed_is (ed_lc (fun d => bitL (n : Int) (pairI d)) pairS (ew_enum (ea_cons (ed_var rfl) ea_nil) rfl) ?_ fun j d hd => ?_) ?_) (ed_cb (ea_cons (ed_var rfl) ea_nil) (rc_list rfl)) nk0)) (fun h => Bool.noConfusion h) (fun _ => r_end fun σ H s l => ⟨_, ⟨_, _, rfl⟩, s, l⟩)⟩
      · rw [enumD_len, List.length_map]
        omega
      · obtain ⟨e, he, rfl, hi⟩ := enumD_get hd
        refine ⟨_, _, gd_tup (gds_cons gd_name (gds_cons gd_name gds_nil)), by simp, ?_, fun _ => ed_var rfl⟩
        exact eb_is (eb_test (ed_eq (ed_CI (C := fun _ j => 0 < j) (ed_cb (ea_cons (ed_CI (ed_var rfl) (ed_var rfl) (Int.natCast_nonneg j)) ea_nil) rc_int) ed_int (by show (0 : Int) < 2; decide)) ed_int rfl)) rfl
      · rw [digits_eq, hmore, kindAt_more _ _ _ hn3, hk]
    rintro δ2 ⟨y8, y9, rfl⟩
    refine p_if (C := fun b => b = false) (eb_test (ed_neSame (d := kindsD xs) (ed_call (ea_cons (ed_revL (ed_var rfl)) ea_nil) rfl ⟨_, xs.reverse, rfl, by rw [← List.map_reverse]; rfl, by rw [List.length_reverse]; omega, kindsD_congr fun y => List.mem_reverse.symm⟩ ?_) (ed_var rfl) nk)) (fun h => Bool.noConfusion h) (fun _ => r_end fun σ H s l => ⟨_, ⟨_, _, _, _, _, _, _, _, _, _, rfl⟩, s, l⟩)
    rintro d ⟨c', us, e, hc', _, rfl⟩
    cases e
    rw [← List.map_reverse] at hc'
    rw [← seqD_strs_unique (c := .lst (xs.reverse.map Dt.str)) rfl hc']
    exact kindsD_congr fun y => List.mem_reverse
  · rintro δ1 ⟨x2, x3, x4, x5, x6, x7, x8, x9, x10, x11, rfl⟩
    have k0 : kindsD [] = .tup [.tup []] := by rw [kindsD_eq, show ascT [] = ([] : List Str) by decide +kernel]; rfl
    have k2 : kindsD ["b", "a"] = .tup [.tup [], .tup [.str "a"], .tup [.str "b"], .tup [.str "a", .str "b"]] := by rw [kindsD_eq, show ascT ["b", "a"] = (["a", "b"] : List Str) by decide +kernel]; rfl
    refine q_ret (d := .bl true) (ed_andV (a := true) (b := true) (ed_eqSame (d := kindsD []) (ed_call (ea_cons (ed_lst ea_nil) ea_nil) rfl ⟨_, [], rfl, rfl, by decide, rfl⟩ ?_) (ed_is (ed_tup (ea_cons (ed_tup ea_nil) ea_nil)) k0.symm) (nice_kindsD (by decide +kernel) (by decide)))
      fun _ => ed_eqSame (d := kindsD ["b", "a"]) (ed_call (ea_cons (ed_tup (ea_cons ed_str (ea_cons ed_str ea_nil))) ea_nil) rfl ⟨_, ["b", "a"], rfl, rfl, by decide, rfl⟩ ?_) (ed_is (ed_tup (ea_cons (ed_tup ea_nil) (ea_cons (ed_tup (ea_cons ed_str ea_nil)) (ea_cons (ed_tup (ea_cons ed_str ea_nil)) (ea_cons (ed_tup (ea_cons ed_str (ea_cons ed_str ea_nil))) ea_nil))))) k2.symm) (nice_kindsD (by decide +kernel) (by decide))) fun v H' j l r => ?_
    · rintro d ⟨c', us, e, hc', _, rfl⟩
      cases e
      rw [← seqD_strs_unique (c := .lst []) (xs := []) rfl hc']
    · rintro d ⟨c', us, e, hc', _, rfl⟩
      cases e
      rw [← seqD_strs_unique (c := .tup [.str "b", .str "a"]) (xs := ["b", "a"]) rfl hc']
    · rw [show v = .bl true from r]
      exact q H'
end
end Mc

namespace Mc
open PySem PySem.Spec PyProof.Rows L2 Evl
theorem all_mk {l : PySem.W.OpenLaw} {w : World} {K : PySem.W.Frag} {h : Heap} {mg : Str → Option Value} {fa f1 f2 f3 f4 f5 f6 f7 f8 f9 : Addr} (X : K.In h) (G : h.Ns mainGlobals mg) (hfa : mg "law" = some (.ref fa))
    {od1 an1 od2 an2 od3 an3 od4 an4 od5 an5 od6 an6 od7 an7 od8 an8 od9 an9 : Option Addr} {sl1 sl2 sl3 sl4 sl5 sl6 sl7 sl8 sl9 : Array (Option Value)} {oc1 kV1 dc1 pm1 cd1 ct1 oc2 kV2 dc2 pm2 cd2 ct2 oc3 kV3 dc3 pm3 cd3 ct3 oc4 kV4 dc4 pm4 cd4 ct4 oc5 kV5 dc5 pm5 cd5 ct5 oc6 kV6 dc6 pm6 cd6 ct6 oc7 kV7 dc7 pm7 cd7 ct7 oc8 kV8 dc8 pm8 cd8 ct8 oc9 kV9 dc9 pm9 cd9 ct9 : Value}
    (a1 : PySem.W.nsIn K mainGlobals "ascending" = some (some (.ref f1))) (l1 : K.lookup f1 = some ⟨oc1, od1, .func (PySem.W.fnOf "ascending" "ascending" (defArgs s_ascending) (defBody s_ascending) (defScope s_ascending) .none kV1 dc1 pm1 an1 cd1 ct1), sl1⟩) (c1 : PySem.W.codeIn K cd1 "ascending" = true) (k1 : PySem.W.keepIn K (.ref f1) = true)
    (a2 : PySem.W.nsIn K mainGlobals "kind_at" = some (some (.ref f2))) (l2 : K.lookup f2 = some ⟨oc2, od2, .func (PySem.W.fnOf "kind_at" "kind_at" (defArgs s_kind_at) (defBody s_kind_at) (defScope s_kind_at) .none kV2 dc2 pm2 an2 cd2 ct2), sl2⟩) (c2 : PySem.W.codeIn K cd2 "kind_at" = true) (k2 : PySem.W.keepIn K (.ref f2) = true)
    (a3 : PySem.W.nsIn K mainGlobals "kinds" = some (some (.ref f3))) (l3 : K.lookup f3 = some ⟨oc3, od3, .func (PySem.W.fnOf "kinds" "kinds" (defArgs s_kinds) (defBody s_kinds) (defScope s_kinds) .none kV3 dc3 pm3 an3 cd3 ct3), sl3⟩) (c3 : PySem.W.codeIn K cd3 "kinds" = true) (k3 : PySem.W.keepIn K (.ref f3) = true)
    (a4 : PySem.W.nsIn K mainGlobals "_law_source" = some (some (.ref f4))) (l4 : K.lookup f4 = some ⟨oc4, od4, .func (PySem.W.fnOf "_law_source" "_law_source" (defArgs s_lsource) (defBody s_lsource) (defScope s_lsource) .none kV4 dc4 pm4 an4 cd4 ct4), sl4⟩) (c4 : PySem.W.codeIn K cd4 "_law_source" = true) (k4 : PySem.W.keepIn K (.ref f4) = true)
    (a5 : PySem.W.nsIn K mainGlobals "_law_draw" = some (some (.ref f5))) (l5 : K.lookup f5 = some ⟨oc5, od5, .func (PySem.W.fnOf "_law_draw" "_law_draw" (defArgs s_ldraw) (defBody s_ldraw) (defScope s_ldraw) .none kV5 dc5 pm5 an5 cd5 ct5), sl5⟩) (c5 : PySem.W.codeIn K cd5 "_law_draw" = true) (k5 : PySem.W.keepIn K (.ref f5) = true)
    (a6 : PySem.W.nsIn K mainGlobals "_law_shuffled" = some (some (.ref f6))) (l6 : K.lookup f6 = some ⟨oc6, od6, .func (PySem.W.fnOf "_law_shuffled" "_law_shuffled" (defArgs s_lshuffled) (defBody s_lshuffled) (defScope s_lshuffled) .none kV6 dc6 pm6 an6 cd6 ct6), sl6⟩) (c6 : PySem.W.codeIn K cd6 "_law_shuffled" = true) (k6 : PySem.W.keepIn K (.ref f6) = true)
    (a7 : PySem.W.nsIn K mainGlobals "_law_names" = some (some (.ref f7))) (l7 : K.lookup f7 = some ⟨oc7, od7, .func (PySem.W.fnOf "_law_names" "_law_names" (defArgs s_lnames) (defBody s_lnames) (defScope s_lnames) .none kV7 dc7 pm7 an7 cd7 ct7), sl7⟩) (c7 : PySem.W.codeIn K cd7 "_law_names" = true) (k7 : PySem.W.keepIn K (.ref f7) = true)
    (a8 : PySem.W.nsIn K mainGlobals "_law_kinds" = some (some (.ref f8))) (l8 : K.lookup f8 = some ⟨oc8, od8, .func (PySem.W.fnOf "_law_kinds" "_law_kinds" (defArgs s_lkinds) (defBody s_lkinds) (defScope s_lkinds) .none kV8 dc8 pm8 an8 cd8 ct8), sl8⟩) (c8 : PySem.W.codeIn K cd8 "_law_kinds" = true) (k8 : PySem.W.keepIn K (.ref f8) = true)
    (a9 : PySem.W.nsIn K mainGlobals "law" = some (some (.ref f9))) (l9 : K.lookup f9 = some ⟨oc9, od9, .func (PySem.W.fnOf "law" "law" (defArgs s_law) (defBody s_law) (defScope s_law) .none kV9 dc9 pm9 an9 cd9 ct9), sl9⟩) (c9 : PySem.W.codeIn K cd9 "law" = true) (k9 : PySem.W.keepIn K (.ref f9) = true)
    (z1 : PySem.W.nsIn K mainGlobals "tuple" = some none) (z2 : PySem.W.nsIn K mainGlobals "sorted" = some none) (z3 : PySem.W.nsIn K mainGlobals "str" = some none) (z4 : PySem.W.nsIn K mainGlobals "enumerate" = some none) (z5 : PySem.W.nsIn K mainGlobals "range" = some none) (z6 : PySem.W.nsIn K mainGlobals "len" = some none) (z7 : PySem.W.nsIn K mainGlobals "int" = some none) (z8 : PySem.W.nsIn K mainGlobals "abs" = some none) (z9 : PySem.W.nsIn K mainGlobals "list" = some none) (z10 : PySem.W.nsIn K mainGlobals "set" = some none) (z11 : PySem.W.nsIn K mainGlobals "repr" = some none) :
    ∃ fd : FuncData, (∀ (s : Shared) (v : Value), BindsTo s fd ⟨[v], []⟩ [("_law_script", v)]) ∧ ∀ base : Heap, K.In base → base.Ns mainGlobals mg → FnG l.prog w K mg base 5 fa fd ["_law_script"] (spLaw K) := by
  have e := hfa.symm.trans (PySem.W.mg_of X G a9)
  cases e
  have F1 := fun_mk (st := s_ascending) l1 c1 k1
  have F2 := fun_mk (st := s_kind_at) l2 c2 k2
  have F3 := fun_mk (st := s_kinds) l3 c3 k3
  have F4 := fun_mk (st := s_lsource) l4 c4 k4
  have F5 := fun_mk (st := s_ldraw) l5 c5 k5
  have F6 := fun_mk (st := s_lshuffled) l6 c6 k6
  have F7 := fun_mk (st := s_lnames) l7 c7 k7
  have F8 := fun_mk (st := s_lkinds) l8 c8 k8
  have F9 := fun_mk (st := s_law) l9 c9 k9
  have b1 := F1.binds (ps := ["names"]) fun _ _ _ _ _ _ us hl => match us, hl with | [_], _ => rfl
  have b2 := F2.binds (ps := ["names", "number"]) fun _ _ _ _ _ _ us hl => match us, hl with | [_, _], _ => rfl
  have b3 := F3.binds (ps := ["names"]) fun _ _ _ _ _ _ us hl => match us, hl with | [_], _ => rfl
  have b4 := F4.binds (ps := ["_law_script", "_law_base"]) fun _ _ _ _ _ _ us hl => match us, hl with | [_, _], _ => rfl
  have b5 := F5.binds (ps := ["_law_deal", "_law_many"]) fun _ _ _ _ _ _ us hl => match us, hl with | [_, _], _ => rfl
  have b6 := F6.binds (ps := ["_law_deal", "_law_some"]) fun _ _ _ _ _ _ us hl => match us, hl with | [_, _], _ => rfl
  have b7 := F7.binds (ps := ["_law_deal", "_law_many"]) fun _ _ _ _ _ _ us hl => match us, hl with | [_, _], _ => rfl
  have b8 := F8.binds (ps := ["_law_names_here"]) fun _ _ _ _ _ _ us hl => match us, hl with | [_], _ => rfl
  exact ⟨PySem.W.fnOf "law" "law" (defArgs s_law) (defBody s_law) (defScope s_law) .none kV9 dc9 pm9 an9 cd9 ct9, fun s v => .of_eq rfl, fun base _ _ => ok_law F9 F1 F2 F3 F4 F5 F6 F7 F8 b1 b2 b3 b4 b5 b6 b7 b8 (PySem.W.mg_of X G a1) (PySem.W.mg_of X G a2) (PySem.W.mg_of X G a3) (PySem.W.mg_of X G a4) (PySem.W.mg_of X G a5) (PySem.W.mg_of X G a6) (PySem.W.mg_of X G a7) (PySem.W.mg_of X G a8) (PySem.W.mg_none_of X G z1) (PySem.W.mg_none_of X G z2) (PySem.W.mg_none_of X G z3) (PySem.W.mg_none_of X G z4) (PySem.W.mg_none_of X G z5) (PySem.W.mg_none_of X G z6) (PySem.W.mg_none_of X G z7) (PySem.W.mg_none_of X G z8) (PySem.W.mg_none_of X G z9) (PySem.W.mg_none_of X G z10) (PySem.W.mg_none_of X G z11)⟩
end Mc
open PySem PySem.W PyProof.Rows
set_option maxHeartbeats 0 in
theorem PySem.Challenge.cw_mostcrowds_k02_kinds_holds : PySem.Challenge.rw_mostcrowds_k02_kinds.Holds := by
  w_on; o_law; k_head; (case hw => w_witness2)
  k_fill
  refine Mc.walk_G (l := PySem.Challenge.rw_mostcrowds_k02_kinds) (n := 63) (k := 5) (x := "_law_script") (sp := fun w => Mc.spLaw _) rfl (by decide) rfl ⟨rfl, by decide, by decide⟩ (fun w h Y => PySem.W.kIn_of Y) ?F (fun _ _ a ns hl _ hS => ⟨a, ns, rfl, hS, hl, fun _ => rfl⟩)
  case F =>
    intro w mg fa h KX G hmg
    refine' Mc.all_mk KX G hmg ?a1 ?l1 ?c1 ?k1 ?a2 ?l2 ?c2 ?k2 ?a3 ?l3 ?c3 ?k3 ?a4 ?l4 ?c4 ?k4 ?a5 ?l5 ?c5 ?k5 ?a6 ?l6 ?c6 ?k6 ?a7 ?l7 ?c7 ?k7 ?a8 ?l8 ?c8 ?k8 ?a9 ?l9 ?c9 ?k9 ?z1 ?z2 ?z3 ?z4 ?z5 ?z6 ?z7 ?z8 ?z9 ?z10 ?z11
    (case a1 => k_is); (case l1 => k_is); (case c1 => k_is); (case k1 => k_is); (case a2 => k_is); (case l2 => k_is); (case c2 => k_is); (case k2 => k_is); (case a3 => k_is); (case l3 => k_is); (case c3 => k_is); (case k3 => k_is); (case a4 => k_is); (case l4 => k_is); (case c4 => k_is); (case k4 => k_is); (case a5 => k_is); (case l5 => k_is); (case c5 => k_is); (case k5 => k_is); (case a6 => k_is); (case l6 => k_is); (case c6 => k_is); (case k6 => k_is); (case a7 => k_is); (case l7 => k_is); (case c7 => k_is); (case k7 => k_is); (case a8 => k_is); (case l8 => k_is); (case c8 => k_is); (case k8 => k_is); (case a9 => k_is); (case l9 => k_is); (case c9 => k_is); (case k9 => k_is); (case z1 => k_is); (case z2 => k_is); (case z3 => k_is); (case z4 => k_is); (case z5 => k_is); (case z6 => k_is); (case z7 => k_is); (case z8 => k_is); (case z9 => k_is); (case z10 => k_is); (case z11 => k_is)

